import PyProof.Rows.All
import Wide.All
import OpenK.AllK
import Wide.FinOn
import HandS.ForSpec
import HandS.IsInst
import HandS.Wide
import HandS.ExcInit
import HandS.ClsMeth
import PyProof.InstNe
import PyProof.StrReplace2
import HandS.SlotsOwn
import HandS.ExcBuiltin
import HandS.RaiseOp
import PyProof.AutoIntOpsIf
import HandS.Defaults
import HandS.ExcField
import HandS.Steps
import HandS.Evl
import PyProof.Rows.Range3
import PyProof.Conv_bool
import PySem.Challenge.RW_anytune_k06_powers_and_quotients
set_option Elab.async false
set_option maxRecDepth 100000
set_option maxHeartbeats 4000000
set_option linter.all false
section
/-! Operators of an own class, over the hand layer. -/
namespace AT
open PySem PySem.Spec PyProof.Rows L2
open AutoSeq1 (wpAny_loadPart')

/-- an object that is no int within -/
def NoPrim (o : Obj) : Prop := ∀ v, o.data ≠ .prim v
theorem noprim_inst {C dx : Addr} : NoPrim (PySem.W.instObj C dx) := fun v e => by cases e

def HasObj (x : Addr) (s : Shared) : Prop := ∃ C dx, s.heap.get? x = some (PySem.W.instObj C dx)

theorem decl_add (a : Int) (t : Tok) (x : Addr) : GivesAt (HasObj x) (Builtin.«int.__add__» ⟨[.int a t, .ref x], []⟩) (.val .notImplemented) := by
  intro prog w A R s hP hq
  obtain ⟨C, dx, hx⟩ := hP
  obtain ⟨hp, g, d, tk, os⟩ := s
  wp_walk using wpAny_loadPart' hx
  exact hq
theorem decl_sub (a : Int) (t : Tok) (x : Addr) : GivesAt (HasObj x) (Builtin.«int.__sub__» ⟨[.int a t, .ref x], []⟩) (.val .notImplemented) := by
  intro prog w A R s hP hq
  obtain ⟨C, dx, hx⟩ := hP
  obtain ⟨hp, g, d, tk, os⟩ := s
  wp_walk using wpAny_loadPart' hx
  exact hq
theorem decl_mul (a : Int) (t : Tok) (x : Addr) : GivesAt (HasObj x) (Builtin.«int.__mul__» ⟨[.int a t, .ref x], []⟩) (.val .notImplemented) := by
  intro prog w A R s hP hq
  obtain ⟨C, dx, hx⟩ := hP
  obtain ⟨hp, g, d, tk, os⟩ := s
  wp_walk using wpAny_loadPart' hx
  exact hq
theorem decl_floordiv (a : Int) (t : Tok) (x : Addr) : GivesAt (HasObj x) (Builtin.«int.__floordiv__» ⟨[.int a t, .ref x], []⟩) (.val .notImplemented) := by
  intro prog w A R s hP hq
  obtain ⟨C, dx, hx⟩ := hP
  obtain ⟨hp, g, d, tk, os⟩ := s
  wp_walk using wpAny_loadPart' hx
  exact hq
theorem decl_mod (a : Int) (t : Tok) (x : Addr) : GivesAt (HasObj x) (Builtin.«int.__mod__» ⟨[.int a t, .ref x], []⟩) (.val .notImplemented) := by
  intro prog w A R s hP hq
  obtain ⟨C, dx, hx⟩ := hP
  obtain ⟨hp, g, d, tk, os⟩ := s
  wp_walk using wpAny_loadPart' hx
  exact hq
theorem decl_lt (a : Int) (t : Tok) (x : Addr) : GivesAt (HasObj x) (Builtin.«int.__lt__» ⟨[.int a t, .ref x], []⟩) (.val .notImplemented) := by
  intro prog w A R s hP hq
  obtain ⟨C, dx, hx⟩ := hP
  obtain ⟨hp, g, d, tk, os⟩ := s
  wp_walk using wpAny_loadPart' hx
  exact hq
theorem decl_le (a : Int) (t : Tok) (x : Addr) : GivesAt (HasObj x) (Builtin.«int.__le__» ⟨[.int a t, .ref x], []⟩) (.val .notImplemented) := by
  intro prog w A R s hP hq
  obtain ⟨C, dx, hx⟩ := hP
  obtain ⟨hp, g, d, tk, os⟩ := s
  wp_walk using wpAny_loadPart' hx
  exact hq
theorem decl_gt (a : Int) (t : Tok) (x : Addr) : GivesAt (HasObj x) (Builtin.«int.__gt__» ⟨[.int a t, .ref x], []⟩) (.val .notImplemented) := by
  intro prog w A R s hP hq
  obtain ⟨C, dx, hx⟩ := hP
  obtain ⟨hp, g, d, tk, os⟩ := s
  wp_walk using wpAny_loadPart' hx
  exact hq
theorem decl_ge (a : Int) (t : Tok) (x : Addr) : GivesAt (HasObj x) (Builtin.«int.__ge__» ⟨[.int a t, .ref x], []⟩) (.val .notImplemented) := by
  intro prog w A R s hP hq
  obtain ⟨C, dx, hx⟩ := hP
  obtain ⟨hp, g, d, tk, os⟩ := s
  wp_walk using wpAny_loadPart' hx
  exact hq
theorem decl_eq (a : Int) (t : Tok) (x : Addr) : GivesAt (HasObj x) (Builtin.«int.__eq__» ⟨[.int a t, .ref x], []⟩) (.val .notImplemented) := by
  intro prog w A R s hP hq
  obtain ⟨C, dx, hx⟩ := hP
  obtain ⟨hp, g, d, tk, os⟩ := s
  wp_walk using wpAny_loadPart' hx
  exact hq
theorem decl_ne (a : Int) (t : Tok) (x : Addr) : GivesAt (HasObj x) (Builtin.«int.__ne__» ⟨[.int a t, .ref x], []⟩) (.val .notImplemented) := by
  intro prog w A R s hP hq
  obtain ⟨C, dx, hx⟩ := hP
  obtain ⟨hp, g, d, tk, os⟩ := s
  wp_walk using wpAny_loadPart' hx
  exact hq

section
variable {prog : Program} {w : World} {A : Around} {E : Value → Shared → Prop} {s : Shared} {K : PySem.W.Frag} {x C L f : Addr} {h₀ : Heap} {m : Str → Option Value} {ox : Obj} {od : Option Obj}
open PySem.W

/-- x op y, two instances of one class -/
theorem bin_same {op : Operator} {y : Addr} {oy : Obj} {od' : Option Obj} {Q : Value → Shared → Prop} (X : K.In s.heap) (I : InstAt s.heap x ox C od) (J : InstAt s.heap y oy C od') (hc : selfFirst K C = true)
    (hs : findIn K (.ref C) (PySem.dunder op.info.2) = some (some (.ref f))) (hf : isFn K (.ref f) = true)
    (h : wpAny (model prog w) A (call (.ref f) [.ref x, .ref y]) (PySem.W.CmpBack Q) E s) : wpAny (model prog w) A (binaryOp op (.ref x) (.ref y)) Q E s := by
  obtain ⟨cd, rest, hcd, hm⟩ := ksp_first hc
  rcases hi : op.info with ⟨sym, nm'⟩
  rw [hi] at hs
  dsimp only at hs
  have one := ksp_try X I hs hf h
  obtain ⟨hh, g, d, tt, os⟩ := s
  have L1 : Looks (model prog w) hh (typeOf (.ref x)) (.ref C) := I.type
  have L2 : Looks (model prog w) hh (typeOf (.ref y)) (.ref C) := J.type
  have L3 : Looks (model prog w) hh (fillsNumberSlot (.ref C) nm') true := fills_K X hcd hm hs
  simp only [binaryOp, hi]
  refine wpAny_holding (wpAny_bind ?_)
  unfold binaryOp1
  refine wpAny_bind (L1.at (wpAny_bind (L2.at (wpAny_bind (L3.at ?_)))))
  simp only [beq_self_eq_true, if_true]
  ksp_lk
  refine wpAny_mono one (fun r s' hr' => ?_) fun _ _ e => e
  obtain ⟨v, rfl, hq⟩ := hr'
  ksp_lk
  exact hq

/-- int op y, y an instance with the reflected method -/
theorem bin_refl {op : Operator} {i : Int} {t : Tok} {id : String} {B : Builtin} {dx : Addr} {Q : Value → Shared → Prop} (X : K.In s.heap) (I : InstAt s.heap x (instObj C dx) C od) (hc : selfFirst K C = true)
    (hl : findIn K (.ref C) (PySem.dunder op.info.2) = some (some (.ref L))) (hs : findIn K (.ref C) (dunderR op.info.2) = some (some (.ref f))) (hf : isFn K (.ref f) = true)
    (hsub : subIn K (.ref C) (.type "int") = some false) (hfi : fillsNumberSlot (.type "int") op.info.2 = pure true)
    (slot : Slot "int" (PySem.dunder op.info.2) id) (entry : entryFor table id = some B) (args : argsOk id ⟨[.int i t, .ref x], []⟩) (dec : GivesAt (HasObj x) (B ⟨[.int i t, .ref x], []⟩) (.val .notImplemented))
    (h : wpAny (model prog w) A (call (.ref f) [.ref x, .int i t]) (PySem.W.CmpBack Q) E s) : wpAny (model prog w) A (binaryOp op (.int i t) (.ref x)) Q E s := by
  obtain ⟨cd, rest, hcd, hm⟩ := ksp_first hc
  have hx : HasObj x s := ⟨C, dx, I.at_⟩
  rcases hi : op.info with ⟨sym, nm'⟩
  rw [hi] at hs hl hfi slot
  dsimp only at hs hl hfi slot
  have one := ksp_try X I hs hf h
  have two : ∀ {Q' : Option Value → Shared → Prop}, Q' none s → wpAny (model prog w) A (tryMethod (.int i t) (PySem.dunder nm') (.ref x)) Q' E s := fun q =>
    wpAny_tryMethod_declines (typeIs_int s i t) slot (call_givesAt slot (typeIs_int s i t) entry args dec hx ⟨rfl, q⟩)
  obtain ⟨hh, g, d, tt, os⟩ := s
  have L1 : Looks (model prog w) hh (typeOf (.int i t)) (.type "int") := Looks.of_pure rfl
  have L2 : Looks (model prog w) hh (typeOf (.ref x)) (.ref C) := I.type
  have L3 : Looks (model prog w) hh (fillsNumberSlot (.type "int") nm') true := Looks.of_pure hfi
  have L4 : Looks (model prog w) hh (fillsNumberSlot (.ref C) nm') true := fills_K X hcd hm hl
  have L5 : Looks (model prog w) hh (isSubtype (.ref C) (.type "int")) false := looks_subIn X hsub
  have hne : (Value.type "int" == Value.ref C) = false := Bool.eq_false_iff.mpr fun q => by cases beq_iff_eq.mp q
  have hpy : numberSlotInPython (.type "int") nm' = pure false := rfl
  simp only [binaryOp, hi]
  refine wpAny_holding (wpAny_bind ?_)
  unfold binaryOp1
  refine wpAny_bind (L1.at (wpAny_bind (L2.at (wpAny_bind (L3.at ?_)))))
  simp only [hne, Bool.false_eq_true, if_false]
  refine wpAny_bind (L4.at ?_)
  simp only [Bool.and_self, if_true]
  refine wpAny_bind (L5.at ?_)
  simp only [Bool.false_eq_true, if_false, pure_bind, Bool.not_false, Bool.and_self, if_true, hpy]
  refine wpAny_bind (two ?_)
  refine wpAny_bind (wpAny_mono one (fun r s' hr' => ?_) fun _ _ e => e)
  obtain ⟨v, rfl, hq⟩ := hr'
  ksp_lk
  exact hq
end
end AT

end

section
namespace AT
open PySem PySem.Spec PyProof.Rows L2
open AutoSeq1 (wpAny_loadPart')
section
variable {prog : Program} {w : World} {A : Around} {E : Value → Shared → Prop} {s : Shared} {K : PySem.W.Frag} {x C L f : Addr} {h₀ : Heap} {m : Str → Option Value} {ox : Obj} {od : Option Obj} {b : Value}
open PySem.W

/-- int op x by comparison, x an instance with the reflected method -/
theorem cmp_refl {op : CmpOp} {i : Int} {t : Tok} {id : String} {B : Builtin} {dx : Addr} {Q : Value → Shared → Prop} (hu : A.units < cLine) (X : K.In s.heap) (I : InstAt s.heap x (instObj C dx) C od)
    (hs : findIn K (.ref C) (cmpInfo op).2.2 = some (some (.ref f))) (hf : isFn K (.ref f) = true) (hsub : subIn K (.ref C) (.type "int") = some false)
    (slot : Slot "int" (cmpInfo op).2.1 id) (entry : entryFor table id = some B) (args : argsOk id ⟨[.int i t, .ref x], []⟩) (dec : GivesAt (HasObj x) (B ⟨[.int i t, .ref x], []⟩) (.val .notImplemented))
    (h : wpAny (model prog w) A (call (.ref f) [.ref x, .int i t]) (PySem.W.CmpBack Q) E s) : wpAny (model prog w) A (richCompare op (.int i t) (.ref x)) Q E s := by
  have hx : HasObj x s := ⟨C, dx, I.at_⟩
  have one : wpAny (model prog w) A (tryCompare (.ref x) (cmpInfo op).2.2 (.int i t)) (fun r s' => ∃ v, r = some v ∧ Q v s') E s := by
    unfold tryCompare
    refine wpAny_bind (ifBound_K X I hs hf (wpAny_mono h (fun v s' hv => ?_) fun _ _ e => e))
    cases v <;> first | exact hv.elim | exact wpAny_pure ⟨_, rfl, hv⟩
  have two : ∀ {Q' : Option Value → Shared → Prop}, Q' none s → wpAny (model prog w) A (tryCompare (.int i t) (cmpInfo op).2.1 (.ref x)) Q' E s := fun q =>
    wpAny_tryCompare_declines (typeIs_int s i t) slot (call_givesAt slot (typeIs_int s i t) entry args dec hx ⟨rfl, q⟩)
  have hne : (Value.type "int" != Value.ref C) = true := by simp
  unfold richCompare
  simp only [(typeIs_int s i t).oneThing_none]
  refine wpAny_holding (wpAny_bind (wpAny_cRoomFor hu ?_))
  refine wpAny_bind (wpAny_typeOf (typeIs_int s i t) (wpAny_bind (I.type.here ?_)))
  simp only [hne, if_true]
  refine wpAny_bind ((looks_subIn X hsub).here ?_)
  simp only [Bool.false_eq_true, if_false, Bool.not_false, if_true]
  refine wpAny_bind (two ?_)
  refine wpAny_bind (wpAny_mono one (fun r s' z => ?_) fun _ _ e => e)
  obtain ⟨v, rfl, hq⟩ := z
  exact wpAny_pure hq

theorem check_ne {Q : Unit → Shared → Prop} (X : K.In s.heap) (I : InstAt s.heap x ox C od) (hm : mroIn K C (.type "object") = some true) (h : Q () s) : wpAny (model prog w) A (checkBuiltinCall "object.__ne__" ⟨[.ref x, b], []⟩) Q E s := by
  simp only [checkBuiltinCall, F.cmpKind_ne, F.cmpSplit_ne]
  refine wpAny_bind ?_
  have LI : Looks (model prog w) s.heap (isInstance (.ref x) (.type "object")) true := I.type.andThen (looks_mroIn X hm)
  refine LI.here ?_
  cases hsig : Manifest.signature? "object.__ne__" with
  | none => exact wpAny_pure h
  | some sig =>
    have ha := F.cmpArgs_ne (.ref x) b
    simp only [argsOk, hsig] at ha
    have h2 : Bind.checkArgs "object.__ne__" sig ⟨[.ref x, b], []⟩ = pure () := ha
    show wpAny _ A (Bind.checkArgs "object.__ne__" sig ⟨[.ref x, b], []⟩) Q E _
    rw [h2]
    exact wpAny_pure h
/-- object.__ne__ asks the own __eq__ -/
theorem run_ne {Q : Fin → Shared → Prop} (hu : A.units < cLine) (X : K.In s.heap) (I : InstAt s.heap x ox C od) (hs : findIn K (.ref C) "__eq__" = some (some (.ref f))) (hf : isFn K (.ref f) = true)
    (h : wpAny (model prog w) A (call (.ref f) [.ref x, b]) (fun v s' => ∃ k, v = .bool k ∧ Q (.done (.ret (.bool (!k)))) s') E s) : wpAny (model prog w) A (Builtin.«object.__ne__» ⟨[.ref x, b], []⟩) Q E s := by
  unfold Builtin.«object.__ne__»
  repeat (first
    | with_reducible refine wpAny_cRoomFor hu ?_
    | (refine wpAny_bind (m := callSpecialIfBound? (.ref x) (Str.ofString "__eq__") [b])
        (ifBound_K X I hs hf (wpAny_mono h (fun r s' hr => by
          obtain ⟨k, rfl, hq⟩ := hr
          repeat (first | exact hq | exact wpAny_pure hq | exact wpAny_truthy_bool hq | (refine wpAny_bind (m := truthy (.bool _)) (wpAny_truthy_bool ?_)) | wp_step)) fun _ _ e => e)))
    | wp_step)
theorem try_ne {Q : Option Value → Shared → Prop} (hu : A.units + 1 < cLine) (X : K.In s.heap) (I : InstAt s.heap x ox C od) (hn : findIn K (.ref C) "__ne__" = some (some (.builtin "object.__ne__"))) (hm : mroIn K C (.type "object") = some true)
    (hs : findIn K (.ref C) "__eq__" = some (some (.ref f))) (hf : isFn K (.ref f) = true)
    (h : wpAny (model prog w) A.in1 (call (.ref f) [.ref x, b]) (fun v s' => ∃ k, v = .bool k ∧ Q (some (.bool (!k))) s') E s) : wpAny (model prog w) A (tryCompare (.ref x) "__ne__" b) Q E s := by
  have fin : wpAny (model prog w) A (call (.builtin "object.__ne__") [.ref x, b]) (fun v s' => ∃ k, v = .bool k ∧ Q (some v) s') E s := by
    refine wpAny_call (codeAny_call_builtin F.cmp_object.ne.plain F.cmpEntry_ne (check_ne X I hm (run_ne (A := A.in1) hu X I hs hf (wpAny_mono h (fun v s' hv => ?_) fun _ _ e => e))))
    obtain ⟨k, rfl, hq⟩ := hv
    exact ⟨k, rfl, !k, rfl, hq⟩
  unfold tryCompare
  simp only [callSpecialIfBound?, bindSpecialIfBound?]
  refine wpAny_bind (wpAny_holding (wpAny_bind (wpAny_bind (wpAny_bind (I.type.here ((looks_findIn X hn).here ?_))))))
  simp only [F.cmp_object.ne.bind]
  refine wpAny_bind (wpAny_askSetting (wpAny_ite ?_))
  have fin2 : wpAny (model prog w) A (call (.builtin "object.__ne__") ([.ref x] ++ [b]) >>= fun v => pure (some v)) (fun r s' => ∃ k, r = some (.bool k) ∧ Q r s') E s :=
    wpAny_bind (wpAny_mono fin (fun v s' h' => by obtain ⟨k, rfl, q⟩ := h'; exact wpAny_pure ⟨k, rfl, q⟩) fun _ _ h' => h')
  have fin3 : wpAny (model prog w) A (call (.builtin "object.__ne__") ([.ref x] ++ [b]) >>= fun v => pure (some v)) (fun r s' => wpAny (model prog w) A (match r with | some .notImplemented | none => pure none | some v => pure (some v)) Q E s') E s :=
    wpAny_mono fin2 (fun r s' h' => by obtain ⟨k, rfl, q⟩ := h'; exact wpAny_pure q) fun _ _ h' => h'
  split
  · exact wpAny_bind (wpAny_pure (wpAny_pure fin3))
  · exact wpAny_tryCatch (wpAny_bind (wpAny_pure (wpAny_pure fin3)))
/-- x != b, x an instance whose class has an own __eq__ alone; b of a class that is not below -/
theorem ne_own {tb : Value} {Q : Value → Shared → Prop} (hu : A.units + 1 < cLine) (X : K.In s.heap) (I : InstAt s.heap x ox C od) (hb : Looks (model prog w) s.heap (typeOf b) tb) (hnf : notFirst K C tb = true) (hn : findIn K (.ref C) "__ne__" = some (some (.builtin "object.__ne__")))
    (hm : mroIn K C (.type "object") = some true) (hs : findIn K (.ref C) "__eq__" = some (some (.ref f))) (hf : isFn K (.ref f) = true)
    (h : wpAny (model prog w) A.in1 (call (.ref f) [.ref x, b]) (fun v s' => ∃ k, v = .bool k ∧ Q (.bool (!k)) s') E s) : wpAny (model prog w) A (richCompare .NotEq (.ref x) b) Q E s := by
  have one : wpAny (model prog w) A (tryCompare (.ref x) "__ne__" b) (fun r s' => ∃ v, r = some v ∧ Q v s') E s :=
    try_ne hu X I hn hm hs hf (wpAny_mono h (fun v s' hv => by obtain ⟨k, rfl, q⟩ := hv; exact ⟨k, rfl, _, rfl, q⟩) fun _ _ e => e)
  unfold richCompare
  simp only [oneThing_ref]
  refine wpAny_holding (wpAny_bind (wpAny_cRoomFor (Nat.lt_of_succ_lt hu) ?_))
  rw [cmpInfo_NotEq]
  dsimp only
  refine wpAny_bind (I.type.here (wpAny_bind (hb.here ?_)))
  split
  · rename_i q
    have e : subIn K tb (.ref C) = some false := by
      rcases Bool.or_eq_true_iff.mp hnf with e | e
      · rw [beq_iff_eq.mp e] at q; simp at q
      · exact beq_iff_eq.mp e
    refine wpAny_bind ((looks_subIn X e).here ?_)
    simp only [Bool.false_eq_true, if_false]
    refine wpAny_bind (wpAny_mono one (fun r s' z => ?_) fun _ _ e => e)
    obtain ⟨v, rfl, hq⟩ := z
    exact wpAny_pure hq
  · refine wpAny_bind (wpAny_pure ?_)
    simp only [Bool.false_eq_true, if_false]
    refine wpAny_bind (wpAny_mono one (fun r s' z => ?_) fun _ _ e => e)
    obtain ⟨v, rfl, hq⟩ := z
    exact wpAny_pure hq
/-- int != x -/
theorem ne_refl {i : Int} {t : Tok} {dx : Addr} {Q : Value → Shared → Prop} (hu : A.units + 1 < cLine) (X : K.In s.heap) (I : InstAt s.heap x (instObj C dx) C od) (hsub : subIn K (.ref C) (.type "int") = some false)
    (hn : findIn K (.ref C) "__ne__" = some (some (.builtin "object.__ne__"))) (hm : mroIn K C (.type "object") = some true) (hs : findIn K (.ref C) "__eq__" = some (some (.ref f))) (hf : isFn K (.ref f) = true)
    (h : wpAny (model prog w) A.in1 (call (.ref f) [.ref x, .int i t]) (fun v s' => ∃ k, v = .bool k ∧ Q (.bool (!k)) s') E s) : wpAny (model prog w) A (richCompare .NotEq (.int i t) (.ref x)) Q E s := by
  have hx : HasObj x s := ⟨C, dx, I.at_⟩
  have one : wpAny (model prog w) A (tryCompare (.ref x) "__ne__" (.int i t)) (fun r s' => ∃ v, r = some v ∧ Q v s') E s :=
    try_ne hu X I hn hm hs hf (wpAny_mono h (fun v s' hv => by obtain ⟨k, rfl, q⟩ := hv; exact ⟨k, rfl, _, rfl, q⟩) fun _ _ e => e)
  have two : ∀ {Q' : Option Value → Shared → Prop}, Q' none s → wpAny (model prog w) A (tryCompare (.int i t) "__ne__" (.ref x)) Q' E s := fun q =>
    wpAny_tryCompare_declines (typeIs_int s i t) F.slot_int_ne (call_givesAt F.slot_int_ne (typeIs_int s i t) F.entry_int_ne (F.args_int_ne_2 _ _) (decl_ne i t x) hx ⟨rfl, q⟩)
  have hne : (Value.type "int" != Value.ref C) = true := by simp
  unfold richCompare
  simp only [(typeIs_int s i t).oneThing_none]
  refine wpAny_holding (wpAny_bind (wpAny_cRoomFor (Nat.lt_of_succ_lt hu) ?_))
  rw [cmpInfo_NotEq]
  dsimp only
  refine wpAny_bind (wpAny_typeOf (typeIs_int s i t) (wpAny_bind (I.type.here ?_)))
  simp only [hne, if_true]
  refine wpAny_bind ((looks_subIn X hsub).here ?_)
  simp only [Bool.false_eq_true, if_false, Bool.not_false, if_true]
  refine wpAny_bind (two ?_)
  refine wpAny_bind (wpAny_mono one (fun r s' z => ?_) fun _ _ e => e)
  obtain ⟨v, rfl, hq⟩ := z
  exact wpAny_pure hq
end
end AT

end

section
namespace AT
open PySem PySem.Spec PyProof.Rows L2
/-- what the written part says of a class whose operators are its own -/
structure OwnC (K : PySem.W.Frag) (C : Addr) : Prop where
  cl : Cls K C
  first : PySem.W.selfFirst K C = true
  notInt : PySem.W.subIn K (.ref C) (.type "int") = some false
  obj : PySem.W.mroIn K C (.type "object") = some true
  ca : PySem.W.findIn K (.ref C) "__class__" = some (some (.builtin "object.__class__"))
  cn : PySem.W.specialIn K (.builtin "object.__class__") "__get__" = some (some (.builtin "getset_descriptor.__get__"))
  ct : PySem.W.takesIn K (.builtin "object.__class__") = some true
/-- a method of the class by its name -/
structure OwnM (K : PySem.W.Frag) (C f : Addr) (name : Str) : Prop where
  at_ : PySem.W.findIn K (.ref C) name = some (some (.ref f))
  fn : PySem.W.isFn K (.ref f) = true
theorem OwnC.ty {K : PySem.W.Frag} {C a dx : Addr} {H : Hp} {fs : List (Str × V)} (o : OwnC K C) (h : H a = some (.ins C dx fs)) : TyX K H (.ref a) (.ref C) := .base (.ins h o.cl o.ca o.cn o.ct o.obj)

theorem rel_ref {a : Addr} : RelV (.ref a) (.ref a) := rfl
theorem rel_int {i : Int} {t : Tok} : RelV (.int i) (.int i t) := ⟨t, rfl⟩
section
variable {X : Cx} {CX : CXT} {C g r : Addr} {fd fd' : FuncData} {ps ps' : List Str} {n : Nat} {sp : Sp} {E : XK} {op : Operator} {cop : CmpOp}
theorem inst_at {pins : List (Addr × Obj)} {σ : L2.St} {H : Hp} {s : Shared} {a dx : Addr} {fs : List (Str × V)} (I : Inv X pins σ H s) (h : H a = some (.ins C dx fs)) : ∃ od, PySem.W.InstAt s.heap a (PySem.W.instObj C dx) C (some od) := by
  obtain ⟨mA, O, _⟩ := ins_get I.hok h
  obtain ⟨od, J, _⟩ := O.look
  exact ⟨od, J⟩
theorem run_two {pins : List (Addr × Obj)} {σ : L2.St} {H : Hp} {s : Shared} {Q : VK} {x y : V} {u v : Value} (F : FnOk X.prog X.w X.K X.mg X.base CX n g fd ps sp) (hr : Room n X.A) (hb : Binds X.K fd ps []) (hx : Passes CX X E) (I : Inv X pins σ H s)
    (rx : RelV x u) (ry : RelV y v) (h : sp [x, y] H Q E) : wpAny (model X.prog X.w) X.A (call (.ref g) [u, v]) (PySem.W.CmpBack (EP X pins σ Q)) X.xe s := by
  have z : wpAny (model X.prog X.w) X.A (call (.ref g) [u, v]) (EP X pins σ Q) X.xe s := run_fn (us := [u, v]) (vs := [x, y]) F hr hb .nil hx I (.cons rx (.cons ry .nil)) (by simpa using h)
  refine thn z fun w s' q => ?_
  obtain ⟨z', H', I', rz, qz⟩ := q
  exact SlX.cmpback rz ⟨z', H', I', rz, qz⟩
/-- x op y: both instances of the class -/
def rInsIns (C : Addr) (sp : Sp) (E : XK) : R2 := fun x y H Q => ∃ a dx fs b dy gs, x = .ref a ∧ y = .ref b ∧ H a = some (.ins C dx fs) ∧ H b = some (.ins C dy gs) ∧ sp [x, y] H Q E
/-- x op i, i an int -/
def rInsInt (C : Addr) (sp : Sp) (E : XK) : R2 := fun x y H Q => ∃ a dx fs i, x = .ref a ∧ y = .int i ∧ H a = some (.ins C dx fs) ∧ sp [x, y] H Q E
/-- i op y: the reflected method of y -/
def rIntIns (C : Addr) (sp : Sp) (E : XK) : R2 := fun x y H Q => ∃ i b dy gs, x = .int i ∧ y = .ref b ∧ H b = some (.ins C dy gs) ∧ sp [y, x] H Q E
theorem op_insIns (o : OwnC X.K C) (m : OwnM X.K C g (PySem.dunder op.info.2)) (F : FnOk X.prog X.w X.K X.mg X.base CX n g fd ps sp) (hr : Room n X.A) (hb : Binds X.K fd ps []) (hx : Passes CX X E) : OpR X (binaryOp op) (rInsIns C sp E) := by
  intro pins s σ H x y v u Q I rx ry h
  obtain ⟨a, dx, fs, b, dy, gs, rfl, rfl, ha, hb', q⟩ := h
  cases (show v = Value.ref a from rx)
  cases (show u = Value.ref b from ry)
  obtain ⟨od, J⟩ := inst_at I ha
  obtain ⟨od', J'⟩ := inst_at I hb'
  exact bin_same I.kIn J J' o.first m.at_ m.fn (run_two F hr hb hx I rel_ref rel_ref q)
theorem op_insInt {fo ro rc : Option Value} (o : OwnC X.K C) (m : OwnM X.K C g (PySem.dunder op.info.2)) (hrc : PySem.W.findIn X.K (.ref C) (dunderR op.info.2) = some rc) (hp : rc = none ∨ ∃ q : Addr, rc = some (.ref q))
    (h1 : PySem.W.findIn X.K (.type "int") (PySem.dunder op.info.2) = some fo) (h2 : PySem.W.findIn X.K (.type "int") (dunderR op.info.2) = some ro) (hsub : PySem.W.subIn X.K (.type "int") (.ref C) = some false)
    (F : FnOk X.prog X.w X.K X.mg X.base CX n g fd ps sp) (hr : Room n X.A) (hb : Binds X.K fd ps []) (hx : Passes CX X E) : OpR X (binaryOp op) (rInsInt C sp E) := by
  intro pins s σ H x y v u Q I rx ry h
  obtain ⟨a, dx, fs, i, rfl, rfl, ha, q⟩ := h
  cases (show v = Value.ref a from rx)
  obtain ⟨t, rfl⟩ := (show ∃ t, u = Value.int i t from ry)
  obtain ⟨od, J⟩ := inst_at I ha
  obtain ⟨mm, hF⟩ := I.fr
  exact PySem.W.ksp_binT hF I.ok.mod.kin J rfl o.first m.at_ m.fn hrc hp h1 h2 hsub (run_two F hr hb hx I rel_ref rel_int q)
/-- the int's own slot declines -/
structure IntDeclines (op : Operator) : Prop where
  fills : fillsNumberSlot (.type "int") op.info.2 = pure true
  ex : ∃ (id : String) (B : Builtin), Slot "int" (PySem.dunder op.info.2) id ∧ entryFor table id = some B ∧ ∀ (i : Int) (t : Tok) (x : Addr), argsOk id ⟨[.int i t, .ref x], []⟩ ∧ GivesAt (HasObj x) (B ⟨[.int i t, .ref x], []⟩) (.val .notImplemented)
theorem dec_add : IntDeclines .Add := ⟨PySem.F.fills_int_add, _, _, PySem.F.slot_int_add, PySem.F.entry_int_add, fun i t x => ⟨PySem.F.args_int_add_2 _ _, decl_add i t x⟩⟩
theorem dec_sub : IntDeclines .Sub := ⟨PySem.F.fills_int_sub, _, _, PySem.F.slot_int_sub, PySem.F.entry_int_sub, fun i t x => ⟨PySem.F.args_int_sub_2 _ _, decl_sub i t x⟩⟩
theorem dec_mul : IntDeclines .Mult := ⟨PySem.F.fills_int_mul, _, _, PySem.F.slot_int_mul, PySem.F.entry_int_mul, fun i t x => ⟨PySem.F.args_int_mul_2 _ _, decl_mul i t x⟩⟩
theorem dec_fdiv : IntDeclines .FloorDiv := ⟨PySem.F.fills_int_floordiv, _, _, PySem.F.slot_int_floordiv, PySem.F.entry_int_floordiv, fun i t x => ⟨PySem.F.args_int_floordiv_2 _ _, decl_floordiv i t x⟩⟩
theorem dec_mod : IntDeclines .Mod := ⟨PySem.F.fills_int_mod, _, _, PySem.F.slot_int_mod, PySem.F.entry_int_mod, fun i t x => ⟨PySem.F.args_int_mod_2 _ _, decl_mod i t x⟩⟩
theorem op_intIns {l : Addr} (d : IntDeclines op) (o : OwnC X.K C) (hl : PySem.W.findIn X.K (.ref C) (PySem.dunder op.info.2) = some (some (.ref l))) (m : OwnM X.K C g (dunderR op.info.2))
    (F : FnOk X.prog X.w X.K X.mg X.base CX n g fd ps sp) (hr : Room n X.A) (hb : Binds X.K fd ps []) (hx : Passes CX X E) : OpR X (binaryOp op) (rIntIns C sp E) := by
  intro pins s σ H x y v u Q I rx ry h
  obtain ⟨i, b, dy, gs, rfl, rfl, hb', q⟩ := h
  obtain ⟨t, rfl⟩ := (show ∃ t, v = Value.int i t from rx)
  cases (show u = Value.ref b from ry)
  obtain ⟨od, J⟩ := inst_at I hb'
  obtain ⟨hfi, id, B, slot, entry, dd⟩ := d
  exact bin_refl I.kIn J o.first hl m.at_ m.fn o.notInt hfi slot entry (dd i t b).1 (dd i t b).2 (run_two F hr hb hx I rel_ref rel_int q)
/-- x cop y, x an instance, y of any kind told -/
def rCmpIns (K : PySem.W.Frag) (C : Addr) (sp : Sp) (E : XK) : R2 := fun x y H Q => ∃ a dx fs ty, x = .ref a ∧ H a = some (.ins C dx fs) ∧ TyX K H y ty ∧ PySem.W.notFirst K C ty = true ∧ sp [x, y] H Q E
theorem op_cmpIns (hop : ∀ a b, compareOp cop a b = richCompare cop a b) (m : OwnM X.K C g (cmpInfo cop).2.1) (F : FnOk X.prog X.w X.K X.mg X.base CX n g fd ps sp) (hr : Room n X.A) (hb : Binds X.K fd ps []) (hx : Passes CX X E) :
    OpR X (compareOp cop) (rCmpIns X.K C sp E) := by
  intro pins s σ H x y v u Q I rx ry h
  obtain ⟨a, dx, fs, ty, rfl, ha, hty, hn, q⟩ := h
  cases (show v = Value.ref a from rx)
  obtain ⟨od, J⟩ := inst_at I ha
  obtain ⟨P, Z, p, _⟩ := kit_of I ry hty
  obtain ⟨mm, hF⟩ := I.fr
  rw [hop]
  exact PySem.W.cmp_K (op := cop) hr.units0 hF I.ok.mod.kin J (Z.ty _ _ I.kIn p) hn m.at_ m.fn (run_two F hr hb hx I rel_ref ry q)
structure IntDeclinesC (op : CmpOp) : Prop where
  ex : ∃ (id : String) (B : Builtin), Slot "int" (cmpInfo op).2.1 id ∧ entryFor table id = some B ∧ ∀ (i : Int) (t : Tok) (x : Addr), argsOk id ⟨[.int i t, .ref x], []⟩ ∧ GivesAt (HasObj x) (B ⟨[.int i t, .ref x], []⟩) (.val .notImplemented)
theorem dec_lt : IntDeclinesC .Lt := ⟨_, _, PySem.F.slot_int_lt, PySem.F.entry_int_lt, fun i t x => ⟨PySem.F.args_int_lt_2 _ _, decl_lt i t x⟩⟩
theorem dec_le : IntDeclinesC .LtE := ⟨_, _, PySem.F.slot_int_le, PySem.F.entry_int_le, fun i t x => ⟨PySem.F.args_int_le_2 _ _, decl_le i t x⟩⟩
theorem dec_gt : IntDeclinesC .Gt := ⟨_, _, PySem.F.slot_int_gt, PySem.F.entry_int_gt, fun i t x => ⟨PySem.F.args_int_gt_2 _ _, decl_gt i t x⟩⟩
theorem dec_ge : IntDeclinesC .GtE := ⟨_, _, PySem.F.slot_int_ge, PySem.F.entry_int_ge, fun i t x => ⟨PySem.F.args_int_ge_2 _ _, decl_ge i t x⟩⟩
theorem dec_eq : IntDeclinesC .Eq := ⟨_, _, PySem.F.slot_int_eq, PySem.F.entry_int_eq, fun i t x => ⟨PySem.F.args_int_eq_2 _ _, decl_eq i t x⟩⟩
theorem op_cmpInt (hop : ∀ a b, compareOp cop a b = richCompare cop a b) (d : IntDeclinesC cop) (o : OwnC X.K C) (m : OwnM X.K C g (cmpInfo cop).2.2) (F : FnOk X.prog X.w X.K X.mg X.base CX n g fd ps sp) (hr : Room n X.A) (hb : Binds X.K fd ps []) (hx : Passes CX X E) :
    OpR X (compareOp cop) (rIntIns C sp E) := by
  intro pins s σ H x y v u Q I rx ry h
  obtain ⟨i, b, dy, gs, rfl, rfl, hb', q⟩ := h
  obtain ⟨t, rfl⟩ := (show ∃ t, v = Value.int i t from rx)
  cases (show u = Value.ref b from ry)
  obtain ⟨od, J⟩ := inst_at I hb'
  obtain ⟨id, B, slot, entry, dd⟩ := d
  rw [hop]
  exact cmp_refl hr.units0 I.kIn J m.at_ m.fn o.notInt slot entry (dd i t b).1 (dd i t b).2 (run_two F hr hb hx I rel_ref rel_int q)
/-- the callee runs one call deeper -/
theorem run_deep {A : Around} {pins : List (Addr × Obj)} {σ : L2.St} {H : Hp} {s : Shared} {Q : VK} {x y : V} {u v : Value} (F : FnOk X.prog X.w X.K X.mg X.base CX n g fd ps sp) (hr : Room n A) (e0 : Env0 X.prog X.w X.K X.mg X.base A X.stack s H) (hb : Binds X.K fd ps []) (hx : Passes CX X E)
    (I : Inv X pins σ H s) (rx : RelV x u) (ry : RelV y v) (h : sp [x, y] H Q E) : wpAny (model X.prog X.w) A (call (.ref g) [u, v]) (EP X pins σ Q) X.xe s := by
  have r2 : Vals [x, y] [u, v] := .cons rx (.cons ry .nil)
  have hl : [u, v].length = ps.length := by rw [← r2.length]; exact F.len _ _ _ _ h
  refine wpAny_call (codeAny_mono (F.run A X.stack s H ⟨[u, v], []⟩ [u, v] [x, y] Q E hr e0 (by have := hb s [u, v] I.kIn (by simpa using hl); simpa using this) r2 h) fun r s' hq => ?_)
  cases r with
  | error e => exact hx pins σ H s e s' I hq
  | ok fl => cases fl with
    | ret w => exact I.after hq
    | next => exact (show False from hq).elim
    | brk => exact (show False from hq).elim
    | cont => exact (show False from hq).elim
/-- x != y by an own == alone -/
def rNeIns (K : PySem.W.Frag) (C : Addr) (sp : Sp) (E : XK) : R2 := fun x y H Q => ∃ a dx fs ty, x = .ref a ∧ H a = some (.ins C dx fs) ∧ TyX K H y ty ∧ PySem.W.notFirst K C ty = true ∧ sp [x, y] H (fun z H' => ∃ k, z = .bl k ∧ Q (.bl (!k)) H') E
def rNeInt (C : Addr) (sp : Sp) (E : XK) : R2 := fun x y H Q => ∃ i b dy gs, x = .int i ∧ y = .ref b ∧ H b = some (.ins C dy gs) ∧ sp [y, x] H (fun z H' => ∃ k, z = .bl k ∧ Q (.bl (!k)) H') E
theorem op_neIns (o : OwnC X.K C) (hn : PySem.W.findIn X.K (.ref C) "__ne__" = some (some (.builtin "object.__ne__"))) (m : OwnM X.K C g "__eq__") (F : FnOk X.prog X.w X.K X.mg X.base CX n g fd ps sp) (hr : Room (n + 1) X.A) (hb : Binds X.K fd ps []) (hx : Passes CX X E) :
    OpR X (compareOp .NotEq) (rNeIns X.K C sp E) := by
  intro pins s σ H x y v u Q I rx ry h
  obtain ⟨a, dx, fs, ty, rfl, ha, hty, hnf, q⟩ := h
  cases (show v = Value.ref a from rx)
  obtain ⟨od, J⟩ := inst_at I ha
  obtain ⟨P, Z, p, _⟩ := kit_of I ry hty
  show wpAny _ _ (richCompare .NotEq _ _) _ _ _
  have dd := run_deep (Q := fun z H' => ∃ k, z = .bl k ∧ Q (.bl (!k)) H') F hr.in1 I.env0.in1 hb hx I rel_ref ry q
  refine ne_own (s := s) (hu_of hr) I.kIn J (Z.ty _ _ I.kIn p) hnf hn o.obj m.at_ m.fn (thn dd fun w s' z => ?_)
  obtain ⟨z', H', I', rz, k, rfl, qz⟩ := z
  exact ⟨k, rz, .bl (!k), H', I', rfl, qz⟩
theorem op_neInt (o : OwnC X.K C) (hn : PySem.W.findIn X.K (.ref C) "__ne__" = some (some (.builtin "object.__ne__"))) (m : OwnM X.K C g "__eq__") (F : FnOk X.prog X.w X.K X.mg X.base CX n g fd ps sp) (hr : Room (n + 1) X.A) (hb : Binds X.K fd ps []) (hx : Passes CX X E) :
    OpR X (compareOp .NotEq) (rNeInt C sp E) := by
  intro pins s σ H x y v u Q I rx ry h
  obtain ⟨i, b, dy, gs, rfl, rfl, hb', q⟩ := h
  obtain ⟨t, rfl⟩ := (show ∃ t, v = Value.int i t from rx)
  cases (show u = Value.ref b from ry)
  obtain ⟨od, J⟩ := inst_at I hb'
  show wpAny _ _ (richCompare .NotEq _ _) _ _ _
  have dd := run_deep (v := .int i t) (Q := fun z H' => ∃ k, z = .bl k ∧ Q (.bl (!k)) H') F hr.in1 I.env0.in1 hb hx I rel_ref rel_int q
  refine ne_refl (s := s) (hu_of hr) I.kIn J o.notInt hn o.obj m.at_ m.fn (thn dd fun w s' z => ?_)
  obtain ⟨z', H', I', rz, k, rfl, qz⟩ := z
  exact ⟨k, rz, .bl (!k), H', I', rfl, qz⟩
/-- -x -/
def rUnIns (C : Addr) (sp : Sp) (E : XK) : V → Hp → VK → Prop := fun x H Q => ∃ a dx fs, x = .ref a ∧ H a = some (.ins C dx fs) ∧ sp [x] H Q E
theorem un_negIns (m : OwnM X.K C g "__neg__") (F : FnOk X.prog X.w X.K X.mg X.base CX n g fd ps sp) (hr : Room n X.A) (hb : Binds X.K fd ps []) (hx : Passes CX X E) : UnR X (unaryOp .USub) (rUnIns C sp E) := by
  intro pins s σ H x v Q I rx h
  obtain ⟨a, dx, fs, rfl, ha, q⟩ := h
  cases (show v = Value.ref a from rx)
  obtain ⟨od, J⟩ := inst_at I ha
  obtain ⟨mm, hF⟩ := I.fr
  exact PySem.W.ksp_neg hF I.ok.mod.kin J m.at_ m.fn (run_fn (us := [.ref a]) (vs := [.ref a]) F hr hb .nil hx I (.cons rfl .nil) (by simpa using q))
/-- // that may be by zero -/
theorem op_fdivX {W : XK} (hc : X.calm = true) (tk : Takes X (fun cls d _ H => W cls d H)) : OpR X (binaryOp .FloorDiv) (fun x y H Q => ∃ i j, x = .int i ∧ y = .int j ∧ ((j ≠ 0 ∧ j.natAbs.log2 < 9000 ∧ Q (.int (i.fdiv j)) H) ∨ (j = 0 ∧ ∀ d, W (.type "ZeroDivisionError") d H))) := by
  intro pins s σ H x y v u Q I rx ry h
  obtain ⟨i, j, rfl, rfl, h⟩ := h
  obtain ⟨t, rfl⟩ := (show ∃ t, v = Value.int i t from rx)
  obtain ⟨t', rfl⟩ := (show ∃ t, u = Value.int j t from ry)
  rcases h with ⟨h0, hl, q⟩ | ⟨rfl, w⟩
  · exact floordiv_int h0 ⟨.int (i.fdiv j), H, I.tok _, ⟨_, rfl⟩, q⟩ (.inl (PyProof.noPylong_of_log2 hl))
  · refine PySem.AutoIntOps.floordiv_0 rfl ?_
    exact ⟨I.ok.hd hc, fun h' tk' e hx => takes_new (t' := tk') tk I hx w⟩
end
end AT

end

section
namespace AT
open PySem PySem.Spec PyProof.Rows L2
section
variable {prog : Program} {w : World} {M : Model} {A : Around} {E : Value → Shared → Prop} {s : Shared} {K : PySem.W.Frag} {x C L f : Addr} {h₀ : Heap} {m : Str → Option Value} {ox : Obj} {od : Option Obj} {nm T : String} {h : Heap} {cd : ClassData}
open PySem.W
/-- no own op= -/
theorem noI {add : Bool} (X : K.In h) (hc : clsIn K C = some cd) (hm : cd.mro = [.ref C, .type "object"]) (h1 : findIn K (.ref C) (dunderI nm) = some none) (h2 : findIn K (.type "object") (dunderI nm) = some none) : Looks M h (fillsInplaceSlot (.ref C) nm add) false := by
  intro A Q E s k q
  have Lm : Looks M h (mroOf (.ref C)) cd.mro := (looks_clsIn X hc).andThen (f := fun cd => pure cd.mro) .now
  have Lm' := Lm.keeps k
  obtain ⟨hh, g, d, tk, os⟩ := s
  have X' : K.In hh := X.keeps k
  have L1 : Looks M hh (typeLookup (.ref C) (dunderI nm)) none := looks_findIn X' h1
  have L2 : Looks M hh (typeLookup (.type "object") (dunderI nm)) none := looks_findIn X' h2
  unfold fillsInplaceSlot
  refine wpAny_bind (Lm'.at ?_)
  rw [hm, List.anyM_cons]
  refine wpAny_bind ?_
  repeat lk
  exact q
/-- x op= y, two instances of one class, by op -/
theorem ibin_same {op : Operator} {y : Addr} {oy : Obj} {od' : Option Obj} {Q : Value → Shared → Prop} (X : K.In s.heap) (I : InstAt s.heap x ox C od) (J : InstAt s.heap y oy C od') (hcd : clsIn K C = some cd) (hm : cd.mro = [.ref C, .type "object"])
    (i1 : findIn K (.ref C) (dunderI op.info.2) = some none) (i2 : findIn K (.type "object") (dunderI op.info.2) = some none)
    (hs : findIn K (.ref C) (PySem.dunder op.info.2) = some (some (.ref f))) (hf : isFn K (.ref f) = true)
    (h : wpAny (model prog w) A (call (.ref f) [.ref x, .ref y]) (PySem.W.CmpBack Q) E s) : wpAny (model prog w) A (inplaceOp op (.ref x) (.ref y)) Q E s := by
  have one := ksp_try X I hs hf h
  obtain ⟨hh, g, d, tt, os⟩ := s
  have L1 : Looks (model prog w) hh (typeOf (.ref x)) (.ref C) := I.type
  have L2 : Looks (model prog w) hh (typeOf (.ref y)) (.ref C) := J.type
  have L3 : Looks (model prog w) hh (fillsNumberSlot (.ref C) op.info.2) true := fills_K X hcd hm hs
  have L4 : Looks (model prog w) hh (fillsInplaceSlot (.ref C) op.info.2 (op == .Add)) false := noI X hcd hm i1 i2
  unfold inplaceOp
  refine wpAny_holding ?_
  refine wpAny_bind (L1.at (wpAny_bind (L4.at ?_)))
  simp only [Bool.false_eq_true, if_false, pure_bind]
  refine wpAny_bind ?_
  unfold binaryOp1
  refine wpAny_bind (L1.at (wpAny_bind (L2.at (wpAny_bind (L3.at ?_)))))
  simp only [beq_self_eq_true, if_true]
  ksp_lk
  refine wpAny_mono one (fun r s' hr' => ?_) fun _ _ e => e
  obtain ⟨v, rfl, hq⟩ := hr'
  ksp_lk
  exact hq
/-- x op= i, i of a built-in type -/
theorem ibin_ty {op : Operator} {b : Value} {fo ro rc : Option Value} {Q : Value → Shared → Prop} (X : K.In s.heap) (I : InstAt s.heap x ox C od) (hb : typeOf b = pure (.type T)) (hcd : clsIn K C = some cd) (hm : cd.mro = [.ref C, .type "object"])
    (i1 : findIn K (.ref C) (dunderI op.info.2) = some none) (i2 : findIn K (.type "object") (dunderI op.info.2) = some none)
    (hs : findIn K (.ref C) (PySem.dunder op.info.2) = some (some (.ref f))) (hf : isFn K (.ref f) = true) (hr : findIn K (.ref C) (dunderR op.info.2) = some rc) (hp : rc = none ∨ ∃ g : Addr, rc = some (.ref g))
    (h1 : findIn K (.type T) (PySem.dunder op.info.2) = some fo) (h2 : findIn K (.type T) (dunderR op.info.2) = some ro) (hsub : subIn K (.type T) (.ref C) = some false)
    (h : wpAny (model prog w) A (call (.ref f) [.ref x, b]) (PySem.W.CmpBack Q) E s) : wpAny (model prog w) A (inplaceOp op (.ref x) b) Q E s := by
  have one := ksp_try X I hs hf h
  obtain ⟨hh, g, d, tt, os⟩ := s
  have L1 : Looks (model prog w) hh (typeOf (.ref x)) (.ref C) := I.type
  have L2 : Looks (model prog w) hh (typeOf b) (.type T) := Looks.of_pure hb
  have L3 : Looks (model prog w) hh (fillsNumberSlot (.ref C) op.info.2) true := fills_K X hcd hm hs
  have L4 : Looks (model prog w) hh (fillsNumberSlot (.type T) op.info.2) ((fo.isSome && !isSeqSlot fo) || (ro.isSome && !isSeqSlot ro)) := ksp_fillsT X h1 h2
  have L5 : Looks (model prog w) hh (isSubtype (.type T) (.ref C)) false := looks_subIn X hsub
  have L6 : Looks (model prog w) hh (numberSlotInPython (.ref C) op.info.2) true := ksp_inPy X hs hr hp
  have L7 : Looks (model prog w) hh (numberSlotInPython (.type T) op.info.2) false := Looks.of_pure rfl
  have L8 : Looks (model prog w) hh (typeLookup (.type T) (dunderR op.info.2)) ro := looks_findIn X h2
  have L9 : Looks (model prog w) hh (fillsInplaceSlot (.ref C) op.info.2 (op == .Add)) false := noI X hcd hm i1 i2
  generalize ((fo.isSome && !isSeqSlot fo) || (ro.isSome && !isSeqSlot ro)) = right at L4
  have hne : (Value.ref C == Value.type T) = false := Bool.eq_false_iff.mpr fun q => by cases beq_iff_eq.mp q
  unfold inplaceOp
  refine wpAny_holding ?_
  refine wpAny_bind (L1.at (wpAny_bind (L9.at ?_)))
  simp only [Bool.false_eq_true, if_false, pure_bind]
  refine wpAny_bind ?_
  unfold binaryOp1
  refine wpAny_bind (L1.at (wpAny_bind (L2.at (wpAny_bind (L3.at ?_)))))
  simp only [hne, Bool.false_eq_true, if_false]
  cases right with
  | false =>
    ksp_lk
    refine wpAny_mono one (fun r s' hr' => ?_) fun _ _ e => e
    obtain ⟨v, rfl, hq⟩ := hr'
    ksp_lk
    exact hq
  | true =>
    ksp_lk
    refine wpAny_mono one (fun r s' hr' => ?_) fun _ _ e => e
    obtain ⟨v, rfl, hq⟩ := hr'
    ksp_lk
    exact hq
end
/-- names of the operators' methods -/
theorem dn_add : PySem.dunder (Operator.info .Add).2 = "__add__" := by decide +kernel
theorem dn_sub : PySem.dunder (Operator.info .Sub).2 = "__sub__" := by decide +kernel
theorem dn_mul : PySem.dunder (Operator.info .Mult).2 = "__mul__" := by decide +kernel
theorem dn_fdiv : PySem.dunder (Operator.info .FloorDiv).2 = "__floordiv__" := by decide +kernel
theorem dn_mod : PySem.dunder (Operator.info .Mod).2 = "__mod__" := by decide +kernel
theorem dn_pow : PySem.dunder (Operator.info .Pow).2 = "__pow__" := by decide +kernel
theorem dr_add : dunderR (Operator.info .Add).2 = "__radd__" := by decide +kernel
theorem dr_sub : dunderR (Operator.info .Sub).2 = "__rsub__" := by decide +kernel
theorem dr_mul : dunderR (Operator.info .Mult).2 = "__rmul__" := by decide +kernel
theorem dr_fdiv : dunderR (Operator.info .FloorDiv).2 = "__rfloordiv__" := by decide +kernel
theorem dr_mod : dunderR (Operator.info .Mod).2 = "__rmod__" := by decide +kernel
theorem dr_pow : dunderR (Operator.info .Pow).2 = "__rpow__" := by decide +kernel
theorem di_add : dunderI (Operator.info .Add).2 = "__iadd__" := by decide +kernel
theorem di_sub : dunderI (Operator.info .Sub).2 = "__isub__" := by decide +kernel
/-- the method, and how int's own type is looked at -/
structure IntOp (K : PySem.W.Frag) (C : Addr) (op : Operator) (l r : Addr) : Prop where
  ml : OwnM K C l (PySem.dunder op.info.2)
  mr : PySem.W.findIn K (.ref C) (dunderR op.info.2) = some none ∨ OwnM K C r (dunderR op.info.2)
  h1 : ∃ fo, PySem.W.findIn K (.type "int") (PySem.dunder op.info.2) = some fo
  h2 : ∃ ro, PySem.W.findIn K (.type "int") (dunderR op.info.2) = some ro
  hs : PySem.W.subIn K (.type "int") (.ref C) = some false
section
variable {X : Cx} {CX : CXT} {C l r : Addr} {fd : FuncData} {ps : List Str} {n : Nat} {sp : Sp} {E : XK} {op : Operator} {cd : ClassData}
theorem IntOp.rc {K : PySem.W.Frag} (o : IntOp K C op l r) : ∃ rc, PySem.W.findIn K (.ref C) (dunderR op.info.2) = some rc ∧ (rc = none ∨ ∃ q : Addr, rc = some (.ref q)) := by
  rcases o.mr with h | h
  · exact ⟨_, h, .inl rfl⟩
  · exact ⟨_, h.at_, .inr ⟨_, rfl⟩⟩
/-- x op y, x an instance, y one too or an int -/
def rIns (C : Addr) (sp : Sp) (E : XK) : R2 := fun x y H Q => ∃ a dx fs, x = .ref a ∧ H a = some (.ins C dx fs) ∧ ((∃ i, y = .int i) ∨ ∃ b dy gs, y = .ref b ∧ H b = some (.ins C dy gs)) ∧ sp [x, y] H Q E
theorem op_ins (o : OwnC X.K C) (i : IntOp X.K C op l r) (F : FnOk X.prog X.w X.K X.mg X.base CX n l fd ps sp) (hr : Room n X.A) (hb : Binds X.K fd ps []) (hx : Passes CX X E) : OpR X (binaryOp op) (rIns C sp E) := by
  intro pins s σ H x y v u Q I rx ry h
  obtain ⟨a, dx, fs, rfl, ha, hy, q⟩ := h
  obtain ⟨rc, e1, e2⟩ := i.rc
  obtain ⟨fo, h1⟩ := i.h1
  obtain ⟨ro, h2⟩ := i.h2
  rcases hy with ⟨j, rfl⟩ | ⟨b, dy, gs, rfl, hb'⟩
  · exact op_insInt o i.ml e1 e2 h1 h2 i.hs F hr hb hx pins s σ H _ _ v u Q I rx ry ⟨a, dx, fs, j, rfl, rfl, ha, q⟩
  · exact op_insIns o i.ml F hr hb hx pins s σ H _ _ v u Q I rx ry ⟨a, dx, fs, b, dy, gs, rfl, rfl, ha, hb', q⟩
structure MroC (K : PySem.W.Frag) (C : Addr) : Prop where
  at_ : ∃ cd, PySem.W.clsIn K C = some cd ∧ cd.mro = [.ref C, .type "object"]
theorem iop_ins (o : OwnC X.K C) (mr : MroC X.K C) (i1 : PySem.W.findIn X.K (.ref C) (dunderI op.info.2) = some none) (i2 : PySem.W.findIn X.K (.type "object") (dunderI op.info.2) = some none) (i : IntOp X.K C op l r)
    (F : FnOk X.prog X.w X.K X.mg X.base CX n l fd ps sp) (hr : Room n X.A) (hb : Binds X.K fd ps []) (hx : Passes CX X E) : PIp X op (rIns C sp E) := by
  intro pins s σ H x y v u Q I rx ry h
  obtain ⟨a, dx, fs, rfl, ha, hy, q⟩ := h
  obtain ⟨rc, e1, e2⟩ := i.rc
  obtain ⟨fo, h1⟩ := i.h1
  obtain ⟨ro, h2⟩ := i.h2
  obtain ⟨cd, c1, c2⟩ := mr.at_
  cases (show v = Value.ref a from rx)
  obtain ⟨od, J⟩ := inst_at I ha
  rcases hy with ⟨j, rfl⟩ | ⟨b, dy, gs, rfl, hb'⟩
  · obtain ⟨t, rfl⟩ := (show ∃ t, u = Value.int j t from ry)
    exact ibin_ty I.kIn J rfl c1 c2 i1 i2 i.ml.at_ i.ml.fn e1 e2 h1 h2 i.hs (run_two F hr hb hx I rel_ref rel_int q)
  · cases (show u = Value.ref b from ry)
    obtain ⟨od', J'⟩ := inst_at I hb'
    exact ibin_same I.kIn J J' c1 c2 i1 i2 i.ml.at_ i.ml.fn (run_two F hr hb hx I rel_ref rel_ref q)
end
end AT

end

section
namespace AT
open PySem PySem.Spec PyProof.Rows L2
section
variable {X : Cx} {e : Expr} {es : List Expr} {ta : TA} {p1 p2 pos : Pos} {B : Addr} {mc : Value} {x : Str}
/-- B.__init__(self, ..), B an own class over ValueError without an __init__ of its own -/
theorem pe_clsinit {pl : Sem Bool} (hg : Gl X x) (hm : X.mg x = some (.ref B)) (r : ClX.CRead X.K B mc) (hv : PySem.W.findCls X.K (.ref B) mc "__init__" = some (.val (.builtin "ValueError.__init__"))) (ha : PA X (e :: es) ta)
    (hd : (x == ("__debug__" : Str)) = false := by decide)
    (hcall : eval (.Call (.Attribute (.Name x p1) "__init__" p2) (e :: es) [] pos) X.env = (eval (.Name x p1) X.env >>= fun ov => standAt p2.atName >>= fun _ => holding [ov] (getMethod ov "__init__" pl) >>= fun q =>
      callWith pos q.1 q.2 (backTo pos (starEach (e :: es) X.env)) (backToKw pos (keywordEach [] X.env))) := by rfl)
    (hst : starEach (e :: es) X.env = (false, eval e X.env) :: starEach es X.env := by rfl) (hnp : (backTo pos (starEach es X.env)).any (·.1) = false := by rfl) :
    PE X (.Call (.Attribute (.Name x p1) "__init__" p2) (e :: es) [] pos) (tVeI X.K ta) := by
  constructor
  intro pins s σ H Q I h
  refine PySem.W.methodCall_KW (ld_glob I hg hm ?_ hd) hcall
  refine PySem.W.method_cls I.kIn r.ga (PySem.W.cls_value I.kIn r.rd hv rfl ?_)
  show wpAny _ _ (callWith pos (Value.builtin "ValueError.__init__") [] (backTo pos (starEach (e :: es) X.env)) []) _ _ _
  refine PyProof.Rows.callWith_method1 (thn (ha.run pos pins _ σ H _ (I.tok _) h) fun us s1 q1 => ?_) hst hnp
  obtain ⟨vs, H1, I1, r1, a, C, ws, rfl, hl, T, ea, q⟩ := q1
  cases r1 with
  | @cons _ u0 _ ur ra rw' =>
    obtain rfl : u0 = Value.ref a := ra
    refine oinit_ok T I1 ea ?_ fun s' J => ⟨.non, H1, J, rfl, q⟩
    rw [← Paired.length rw', sizeLine_eq]
    omega
end
end AT

end

section
/-! Steps of a reading, one by one. -/
namespace AT
open PySem PySem.Spec PyProof.Rows L2
abbrev rNewL (xs : List V) : Hp → VK → Prop := fun H Q => xs.length ≤ sizeLine ∧ ∀ p, H p = none → Q (.ref p) (upd H p (.lst xs))
abbrev rNewT (xs : List V) : Hp → VK → Prop := fun H Q => xs.length ≤ sizeLine ∧ ∀ p, H p = none → Q (.ref p) (upd H p (.tup xs))
/-- all that stood stands -/
abbrev Ext (H H' : Hp) : Prop := Same H H'
theorem Ext.new {H : Hp} {p : Addr} {o : HO} (h : H p = none) : Ext H (upd H p o) := fun b u e => by rw [upd_ne (ne_of_none e h)]; exact e
theorem Ext.mut {H H' : Hp} {p : Addr} {o : HO} (e : Ext H H') (h : H p = none) : Ext H (upd H' p o) := fun b u z => by rw [upd_ne (ne_of_none z h)]; exact e b u z
theorem Ext.t {H H1 H2 : Hp} (a : Ext H H1) (b : Ext H1 H2) : Ext H H2 := Same.trans a b
theorem Ext.fresh {H H' : Hp} (e : Ext H H') {p : Addr} (h : H' p = none) : H p = none := Same.free e h
theorem n_lst {xs : List V} {H : Hp} {Q : VK} (z : xs.length ≤ 100000) (k : ∀ p H', H p = none → Ext H H' → H' p = some (.lst xs) → Q (.ref p) H') : rNewL xs H Q := ⟨Nat.le_trans z (by decide), fun p np => k p _ np (Ext.new np) upd_same⟩
theorem n_tup {xs : List V} {H : Hp} {Q : VK} (z : xs.length ≤ 100000) (k : ∀ p H', H p = none → Ext H H' → H' p = some (.tup xs) → Q (.ref p) H') : rNewT xs H Q := ⟨Nat.le_trans z (by decide), fun p np => k p _ np (Ext.new np) upd_same⟩
end AT
namespace AT
open PySem PySem.Spec PyProof.Rows L2
/-- x.f of an instance; x.f = y -/
def rFld (K : PySem.W.Frag) (f : Str) : V → Hp → VK → Prop := fun x H Q => ∃ a C dx fs v, x = .ref a ∧ H a = some (.ins C dx fs) ∧ Cls K C ∧ NoAttr K C f ∧ fs.lookup f = some v ∧ Q v H
def rSFld (K : PySem.W.Frag) (f : Str) : V → V → Hp → (Hp → Prop) → Prop := fun x y H Q => ∃ a C dx fs, x = .ref a ∧ H a = some (.ins C dx fs) ∧ Cls K C ∧ NoAttr K C f ∧ fs.length < 1000 ∧ Q (upd H a (.ins C dx (putF f y fs)))
end AT
namespace AT
open PySem PySem.Spec PyProof.Rows L2
section
variable {K : PySem.W.Frag} {σ : L2.St} {H : Hp} {Q : VK} {tl : TE} {ta : TA} {R : It → Hp → Prop} {a : Addr} {xs : List V} {j i : Int} {x c : V} {t u : Value} {b : Bool} {g : TGs} {tg : TG} {QS : L2.St → Hp → Prop}
theorem w_iList (h : tl σ H fun x H1 => ∃ a, x = .ref a ∧ (∃ xs, SqL K H1 a xs) ∧ R (Itl K a) H1) : iList K tl σ H R := h
theorem w_itL (l : SqL K H a xs) (h : R (Itl K a) H) : ∃ a', V.ref a = .ref a' ∧ (∃ xs, SqL K H a' xs) ∧ R (Itl K a') H := ⟨a, rfl, ⟨xs, l⟩, h⟩
theorem w_iTup (h : tl σ H fun x H1 => ∃ a, x = .ref a ∧ (∃ xs, SqT K H1 a xs) ∧ R (Itt K a) H1) : iTup K tl σ H R := h
theorem w_itT (l : SqT K H a xs) (h : R (Itt K a) H) : ∃ a', V.ref a = .ref a' ∧ (∃ xs, SqT K H a' xs) ∧ R (Itt K a') H := ⟨a, rfl, ⟨xs, l⟩, h⟩
theorem w_iRng1 (h : ta σ H fun vs H1 => ∃ j : Int, vs = [.int j] ∧ -(2 ^ 62) ≤ j ∧ j < 2 ^ 62 ∧ R (Itr 0 j.toNat) H1) : iRng1 ta σ H R := h
theorem w_itR1 (h1 : -(2 ^ 62) ≤ j) (h2 : j < 2 ^ 62) (h : R (Itr 0 j.toNat) H) : ∃ j' : Int, [V.int j] = [.int j'] ∧ -(2 ^ 62) ≤ j' ∧ j' < 2 ^ 62 ∧ R (Itr 0 j'.toNat) H := ⟨j, rfl, h1, h2, h⟩
theorem w_gname {k : Nat} {v : V} (h : QS (σ.set k (some v)) H) : gName k v σ H QS := h
/-- isinstance -/
theorem w_isi (k : ClsV c u) (ty : TyX K H x t) (e : PySem.W.kitOne K t u = some b) (h : Q (.bl b) H) : rIsi K [x, c] H Q := ⟨x, c, t, u, b, rfl, k, ty, e, h⟩
theorem w_intInt (h : Q (.bl true) H) : rIsi K [.int i, .ty "int"] H Q := w_isi (.ty "int") (.base (.int i)) (kit_ty (by decide +kernel)) h
theorem w_intBool (h : Q (.bl false) H) : rIsi K [.int i, .ty "bool"] H Q := w_isi (.ty "bool") (.base (.int i)) (kit_ty (by decide +kernel)) h
theorem w_boolBool {k : Bool} (h : Q (.bl true) H) : rIsi K [.bl k, .ty "bool"] H Q := w_isi (.ty "bool") (.base (.bl k)) (kit_ty (by decide +kernel)) h
theorem kit_own {C : Addr} (h1 : PySem.W.isClsIn K C = true) (h2 : PySem.W.typeIn K (.ref C) = some (.type "type")) (h3 : PySem.W.subIn K t (.ref C) = some b) (hn : (t == .ref C) = false) : PySem.W.kitOne K t (.ref C) = some b := by
  have h1' : (PySem.W.clsIn K C).isSome = true := h1
  unfold PySem.W.kitOne
  rw [hn, if_neg (by decide)]
  simp only [PySem.W.kitCls]
  rw [h1', h2, if_pos (by simp)]
  exact h3
theorem kit_insTy {C : Addr} {T : String} (h3 : PySem.W.subIn K (.ref C) (.type T) = some b) (hm : PySem.W.kitMeta T = true) : PySem.W.kitOne K (.ref C) (.type T) = some b := by
  unfold PySem.W.kitOne
  rw [if_neg (by simp)]
  simp only [PySem.W.kitCls]
  rw [if_pos hm]
  exact h3
theorem kit_self {C : Addr} : PySem.W.kitOne K (.ref C) (.ref C) = some true := by
  unfold PySem.W.kitOne
  rw [if_pos (by simp)]
end
end AT
namespace AT
open PySem PySem.Spec PyProof.Rows L2
/-- a while by what holds ahead of each turn and a measure -/
theorem w_while {c : TT} {tb : TS} {D : Ends} {σ : L2.St} {H : Hp} (Pv : L2.St → Hp → Prop) (μ : L2.St → Hp → Nat) (h0 : Pv σ H)
    (hs : ∀ σ H, Pv σ H → c σ H fun b H1 => if b = true then ∃ N : L2.St → Hp → Prop, (∀ σ' H', N σ' H' → ∃ m', m' < μ σ H ∧ m' = μ σ' H' ∧ Pv σ' H') ∧ tb { D with nx := N, ct := N, bk := D.nx } σ H1 else D.nx σ H1) : tWhile c tb D σ H := by
  refine ⟨fun m σ H => m = μ σ H ∧ Pv σ H, ⟨_, rfl, h0⟩, ?_⟩
  rintro m σ H ⟨rfl, p⟩
  exact hs σ H p
theorem w_wturn {Pv : L2.St → Hp → Prop} {μ : L2.St → Hp → Nat} {m : Nat} {D : Ends} {tb : TS} {σ : L2.St} {H : Hp}
    (h : tb { D with nx := fun σ' H' => μ σ' H' < m ∧ Pv σ' H', ct := fun σ' H' => μ σ' H' < m ∧ Pv σ' H', bk := D.nx } σ H) :
    ∃ N : L2.St → Hp → Prop, (∀ σ' H', N σ' H' → ∃ m', m' < m ∧ m' = μ σ' H' ∧ Pv σ' H') ∧ tb { D with nx := N, ct := N, bk := D.nx } σ H := ⟨_, fun _ _ z => ⟨_, z.1, rfl, z.2⟩, h⟩
end AT
namespace AT
open PySem PySem.Spec PyProof.Rows L2
def rAbs : List V → Hp → VK → Prop := fun xs H Q => ∃ i, xs = [.int i] ∧ Q (.int (if i < 0 then -i else i)) H
theorem call_absR {X : Cx} : CallR X (.builtin "abs") rAbs := call_abs
def rInt1 : List V → Hp → VK → Prop := fun xs H Q => (∃ i, xs = [.int i] ∧ Q (.int i) H) ∨ ∃ k, xs = [.bl k] ∧ Q (.int (if k then 1 else 0)) H
theorem call_intR {X : Cx} : CallR X (.type "int") rInt1 := call_int1
def rLenS (K : PySem.W.Frag) : List V → Hp → VK → Prop := fun xs H Q => ∃ p ys, xs = [.ref p] ∧ (SqL K H p ys ∨ SqT K H p ys) ∧ Q (.int ys.length) H
theorem call_lenR {X : Cx} : CallR X (.builtin "len") (rLenS X.K) := call_len_seq
section
variable {K : PySem.W.Frag} {H : Hp} {Q : VK} {a : Int} {p : Addr} {xs : List V} {v x : V} {i : Int}
theorem w_abs (h : Q (.int (a.natAbs : Int)) H) : rAbs [.int a] H Q := ⟨a, rfl, by
  have e : (if a < 0 then -a else a) = (a.natAbs : Int) := by split <;> omega
  rw [e]; exact h⟩
theorem w_int (h : Q (.int a) H) : rInt1 [.int a] H Q := .inl ⟨a, rfl, h⟩
theorem w_len (l : SqL K H p xs) (h : Q (.int xs.length) H) : rLenS K [.ref p] H Q := ⟨p, xs, rfl, .inl l, h⟩
theorem w_lenT (l : SqT K H p xs) (h : Q (.int xs.length) H) : rLenS K [.ref p] H Q := ⟨p, xs, rfl, .inr l, h⟩
theorem w_ixL (l : SqL K H p xs) (e : atI xs i = some v) (h : Q v H) : rIxL K (.ref p) (.int i) H Q := ⟨p, xs, i, v, rfl, rfl, l, e, h⟩
theorem w_ixT (l : SqT K H p xs) (e : atI xs i = some v) (h : Q v H) : rIxT K (.ref p) (.int i) H Q := ⟨p, xs, i, v, rfl, rfl, l, e, h⟩
theorem w_app (l : H p = some (.lst xs)) (z : xs.length < 100000) (h : Q .non (upd H p (.lst (xs ++ [x])))) : rAppend (.ref p) [x] H Q := ⟨p, xs, x, rfl, rfl, l, Nat.lt_of_lt_of_le z (by decide), h⟩
end
end AT
namespace AT
open PySem PySem.Spec PyProof.Rows L2
/-- floor division by any divisor below 2 ^ 9000 but 0 -/
theorem op_fdivG {X : Cx} : OpR X (binaryOp .FloorDiv) (rI (fun _ j => j ≠ 0 ∧ j.natAbs.log2 < 9000) fun i j => .int (i.fdiv j)) := opI fun _ _ _ _ _ _ _ hc q => floordiv_int hc.1 q (.inl (PyProof.noPylong_of_log2 hc.2))
end AT
namespace AT
open PySem PySem.Spec PyProof.Rows L2
section
variable {K : PySem.W.Frag} {σ : L2.St} {H : Hp} {Q : VK} {D : Ends} {te ta tb : TE} {t u : TS} {c d : TT} {v x y : V} {i j : Nat} {r : R2} {QB : Bool → Hp → Prop} {QA : List V → Hp → Prop} {tr : TA} {tl : TA}
theorem w_seq (h : t { D with nx := u D } σ H) : tSeq t u D σ H := h
theorem w_next (h : D.nx σ H) : tNext D σ H := h
theorem w_if (h : c σ H fun b H1 => if b = true then t D σ H1 else u D σ H1) : tIfS c t u D σ H := h
theorem w_set (h : te σ H fun x H1 => D.nx (σ.set i (some x)) H1) : tAsg te (gName i) D σ H := h
theorem w_par (h : tr σ H fun vs H1 => ∃ v w, vs = [v, w] ∧ D.nx ((σ.set i (some v)).set j (some w)) H1) : tPar i j tr D σ H := h
theorem w_two {P : V → V → Prop} (h : P x y) : ∃ v w, [x, y] = [v, w] ∧ P v w := ⟨x, y, rfl, h⟩
theorem w_drop (h : te σ H fun _ H1 => D.nx σ H1) : tDrop te D σ H := h
theorem w_ret (h : te σ H D.rt) : tRet te D σ H := h
theorem w_retN (h : D.rt .non H) : tRetN D σ H := h
theorem w_var (e : σ[i]? = some (some v)) (h : Q v H) : tVar i σ H Q := ⟨v, e, h⟩
theorem w_aug {ti : TIp} (e : σ[i]? = some (some x)) (h : te σ H fun y H1 => ti x y H1 fun z H2 => D.nx (σ.set i (some z)) H2) : tAug i te ti D σ H := ⟨x, e, h⟩
theorem w_c (h : Q v H) : tC v σ H Q := h
theorem w_test (h : te σ H fun x H' => ∃ k, x = .bl k ∧ QB k H') : tTest te σ H QB := h
theorem w_B (h : te σ H fun x H' => ∃ k, x = .bl k ∧ QB k H') : tB te σ H QB := h
theorem w_bl {k : Bool} (h : QB k H) : ∃ k', V.bl k = .bl k' ∧ QB k' H := ⟨k, rfl, h⟩
theorem w_op (h : ta σ H fun x H1 => tb σ H1 fun y H2 => r x y H2 Q) : tOp r ta tb σ H Q := h
theorem w_un {ru : V → Hp → VK → Prop} (h : ta σ H fun x H1 => ru x H1 Q) : tUn ru ta σ H Q := h
theorem w_rU {g : Int → V} {a : Int} (h : Q (g a) H) : rU g (.int a) H Q := ⟨a, rfl, h⟩
theorem w_rI0 {g : Int → Int → V} {a b : Int} (h : Q (g a b) H) : rI0 g (.int a) (.int b) H Q := ⟨a, b, rfl, rfl, h⟩
theorem w_rI {C : Int → Int → Prop} {g : Int → Int → V} {a b : Int} (hc : C a b) (h : Q (g a b) H) : rI C g (.int a) (.int b) H Q := ⟨a, b, rfl, rfl, hc, h⟩
theorem w_pow {g : Int → Int → V} {a b : Int} (c : 0 ≤ b ∧ b ≤ 1000000 ∧ a.natAbs < 2 ^ 64) (h : Q (g a b) H) : rI CPow g (.int a) (.int b) H Q := ⟨a, b, rfl, rfl, c, h⟩
theorem w_mod {g : Int → Int → V} {a b : Int} (c : 0 < b) (h : Q (g a b) H) : rI (fun _ j => 0 < j) g (.int a) (.int b) H Q := ⟨a, b, rfl, rfl, c, h⟩
theorem w_eqI {a b : Int} (h : Q (.bl (decide (a = b))) H) : rEq (.int a) (.int b) H Q := ⟨rfl, by
  have e : decide (V.int a = V.int b) = decide (a = b) := by rw [dec_int, Bool.eq_iff_iff, beq_iff_eq, decide_eq_true_iff]
  rw [e]
  exact h⟩
theorem w_neI {a b : Int} (h : Q (.bl (!decide (a = b))) H) : rNe (.int a) (.int b) H Q := ⟨rfl, by
  have e : decide (V.int a = V.int b) = decide (a = b) := by rw [dec_int, Bool.eq_iff_iff, beq_iff_eq, decide_eq_true_iff]
  rw [e]
  exact h⟩
theorem w_chain {r' : R2} {tc : TE} (h : ta σ H fun x H1 => tb σ H1 fun y H2 => r x y H2 fun z H3 => ∃ k, z = .bl k ∧ (if k = true then tc σ H3 fun w' H4 => r' y w' H4 Q else Q (.bl false) H3)) : tChain r r' ta tb tc σ H Q := h
theorem w_blV {k : Bool} {P : Bool → Prop} (h : P k) : ∃ k', V.bl k = .bl k' ∧ P k' := ⟨k, rfl, h⟩
theorem w_and (h : c σ H fun b H1 => if b = true then d σ H1 QB else QB false H1) : tAnd c d σ H QB := h
theorem w_or (h : c σ H fun b H1 => if b = true then QB true H1 else d σ H1 QB) : tOr c d σ H QB := h
theorem w_not (h : c σ H fun b H1 => QB (!b) H1) : tNot c σ H QB := h
theorem w_andV (h : ta σ H fun x H1 => ∃ k, x = .bl k ∧ if k = true then tb σ H1 Q else Q (.bl false) H1) : tAndV ta tb σ H Q := h
theorem w_orV (h : ta σ H fun x H1 => ∃ k, x = .bl k ∧ if k = true then Q (.bl true) H1 else tb σ H1 Q) : tOrV ta tb σ H Q := h
theorem w_notV (h : ta σ H fun x H1 => ∃ k, x = .bl k ∧ Q (.bl (!k)) H1) : tNotV ta σ H Q := h
theorem w_ifE (h : c σ H fun b H1 => if b = true then ta σ H1 Q else tb σ H1 Q) : tIf c ta tb σ H Q := h
theorem w_nil (h : QA [] H) : tNil σ H QA := h
theorem w_cons (h : te σ H fun x H1 => tl σ H1 fun xs H2 => QA (x :: xs) H2) : tCons te tl σ H QA := h
theorem w_call {sp : Sp} {dvs : List V} {E : XK} (h : tr σ H fun vs H1 => sp (vs ++ dvs) H1 Q E) : tCall sp dvs E tr σ H Q := h
theorem w_callS {sp : Sp} {E : L2.St → XK} (h : tr σ H fun vs H1 => sp vs H1 Q (E σ)) : tCallS sp E tr σ H Q := h
theorem w_cb {rc : List V → Hp → VK → Prop} (h : tr σ H fun vs H1 => rc vs H1 Q) : tCB rc tr σ H Q := h
theorem w_fld {f : Str} (h : ta σ H fun x H1 => rFld K f x H1 Q) : tFld K ta f σ H Q := h
theorem w_sfld {f : Str} (h : tb σ H fun y H1 => ta σ H1 fun x H2 => rSFld K f x y H2 (D.nx σ)) : sFld K ta tb f D σ H := h
theorem w_lst (h : tr σ H fun xs H1 => rNewL xs H1 Q) : tLst tr σ H Q := h
theorem w_tup (h : tr σ H fun xs H1 => rNewT xs H1 Q) : tTup tr σ H Q := h
theorem w_bm {T : String} {rm : V → List V → Hp → VK → Prop} (h : ta σ H fun x H1 => tyV K T x H1 ∧ tr σ H1 fun xs H2 => rm x xs H2 Q) : tBM K T rm ta tr σ H Q := h
theorem w_for {wi : TI} {g : TG} (h : wi σ H fun J H1 => ∃ W : Nat → Nat → L2.St → Hp → Prop, (∃ m, W 0 m σ H1) ∧ ∀ i m σ H, W i m σ H →
  (J.stop i H ∧ D.nx σ H) ∨ (J.go i H ∧ ∃ N : L2.St → Hp → Prop, (∀ σ' H', N σ' H' → ∃ m', m' < m ∧ W (i + 1) m' σ' H') ∧ ∀ x H', J.yld i H x H' → g x σ H' fun σ2 H2 => t { D with nx := N, ct := N, bk := D.nx } σ2 H2)) : tFor wi g t D σ H := h
end
section
variable {p q : Prop} [Decidable p] {A B : Prop} {b : Bool}
theorem i_dec (h1 : p → A) (h2 : ¬ p → B) : if decide p = true then A else B := by
  by_cases hp : p
  · rw [decide_eq_true hp]; exact h1 hp
  · rw [decide_eq_false hp]; exact h2 hp
theorem i_ndec (h1 : p → B) (h2 : ¬ p → A) : if (!decide p) = true then A else B := by
  by_cases hp : p
  · rw [decide_eq_true hp]; exact h1 hp
  · rw [decide_eq_false hp]; exact h2 hp
theorem i_yes (hp : b = true) (h : A) : if b = true then A else B := by rw [hp]; exact h
theorem i_no (hp : b = false) (h : B) : if b = true then A else B := by rw [hp]; exact h
end
end AT
namespace AT
open PySem PySem.Spec PyProof.Rows L2
theorem w_mulW {H : Hp} {Q : VK} {i j : Int} {m n : Nat} (h1 : i.natAbs < 2 ^ m) (h2 : j.natAbs < 2 ^ n) (h0 : 0 < m) (h3 : 0 < n) (h4 : m + n ≤ 1000000) (k : Q (.int (i * j)) H) : rI CMulW (fun i j => .int (i * j)) (.int i) (.int j) H Q :=
  ⟨i, j, rfl, rfl, wide_mul h1 h2 h0 h3 h4, k⟩
end AT
namespace L2
open PySem PySem.Spec PyProof.Rows
theorem Same.seqT {K : PySem.W.Frag} {H H' : Hp} {a : Addr} {xs : List V} (e : Same H H') (h : SqT K H a xs) : SqT K H' a xs := by
  rcases h with (h | ⟨o, h⟩) | h
  · exact .inl (.inl (e _ _ h))
  · exact .inl (.inr ⟨o, e _ _ h⟩)
  · exact .inr h
end L2

end

section
/-! Making an object, methods and operators in a try: what is raised is wished for at the slots as they stand. -/
namespace AT
open PySem PySem.Spec PyProof.Rows L2
/-- C(e, ..) in a try -/
def rMakeS (C : Addr) (sp : Sp) (dvs : List V) (E : XK) : List V → Hp → VK → Prop := fun vs H1 Q => ∀ x dx, H1 x = none → H1 dx = none → dx ≠ x →
  sp (.ref x :: (vs ++ dvs)) (upd (upd H1 dx (.own x)) x (.ins C dx [])) (fun v H2 => v = .non ∧ Q (.ref x) H2) E
def tMakeS (C : Addr) (sp : Sp) (dvs : List V) (E : L2.St → XK) (t : TA) : TE := fun σ H Q => t σ H fun vs H1 => rMakeS C sp dvs (E σ) vs H1 Q
section
variable {X : Cx} {CX : CXT} {k : Nat} {f C : Addr} {fd : FuncData} {ps : List Str} {sp : Sp} {E : L2.St → XK} {x : Str} {p pos : Pos} {e : Expr} {es : List Expr} {t : TA} {dvs : List V} {ds : List Value}
theorem run_makeS {pins : List (Addr × Obj)} {σ : L2.St} {H : Hp} {s : Shared} {Q : VK} {us : List Value} {vs : List V} (M : Mk X.K C f) (F : FnOk X.prog X.w X.K X.mg X.base CX k f fd ps sp) (hr : Room (k + 1) X.A) (hb : Binds X.K fd ps ds) (hd : Vals dvs ds)
    (hx : PassesAt CX X σ (E σ)) (I : Inv X pins σ H s) (r : Vals vs us) (h : rMakeS C sp dvs (E σ) vs H Q) : wpAny (model X.prog X.w) X.A (call (.ref C) us) (EP X pins σ Q) X.xe s := by
  have hq := h (s.heap.objs.size + 1) s.heap.objs.size (I.hok.fresh (Nat.le_succ _)) (I.hok.fresh (Nat.le_refl _)) (Nat.ne_of_lt (Nat.lt_succ_self _))
  have J := Inv.made (C := C) I
  have r2 : Vals (V.ref (s.heap.objs.size + 1) :: (vs ++ dvs)) (Value.ref (s.heap.objs.size + 1) :: (us ++ ds)) := Paired.cons rfl (Vals.append r hd)
  have hl : (Value.ref (s.heap.objs.size + 1) :: us ++ ds).length = ps.length := (Vals.length r2).symm.trans (F.len _ _ _ _ hq)
  have bb := hb _ (Value.ref (s.heap.objs.size + 1) :: us) J.kIn hl
  refine wpAny_call (make_map (f := f) I.kIn M.makes M.init (beq_iff_eq.mp M.fn) (codeAny_mono (F.run _ X.stack _ _ ⟨Value.ref (s.heap.objs.size + 1) :: us, []⟩ (Value.ref (s.heap.objs.size + 1) :: (us ++ ds)) _ _ (E σ)
    (hr.make C us []) (J.env0.make C us []) bb r2 hq) fun q s1 z => ?_))
  cases q with
  | error er => exact hx pins _ _ er s1 J z
  | ok fl =>
    cases fl with
    | ret u =>
      obtain ⟨v, H2, I2, rv, ev, q2⟩ := J.after z
      subst ev
      exact ⟨rv, V.ref (s.heap.objs.size + 1), H2, I2, rfl, q2⟩
    | next => exact (show False from z).elim
    | brk => exact (show False from z).elim
    | cont => exact (show False from z).elim
theorem pe_makeS (M : Mk X.K C f) (F : FnOk X.prog X.w X.K X.mg X.base CX k f fd ps sp) (hr : Room (k + 1) X.A) (hg : Gl X x) (hm : X.mg x = some (.ref C)) (hb : Binds X.K fd ps ds) (hd : Vals dvs ds) (hx : ∀ σ, PassesAt CX X σ (E σ)) (ha : PA X (e :: es) t)
    (hdb : (x == ("__debug__" : Str)) = false := by decide) (hst : starEach (e :: es) X.env = (false, eval e X.env) :: starEach es X.env := by rfl) (hnp : (backTo pos (starEach es X.env)).any (·.1) = false := by rfl) :
    PE X (.Call (.Name x p) (e :: es) [] pos) (tMakeS C sp dvs E t) := by
  constructor
  intro pins s σ H Q I h
  refine wpAny_Call_Name_kw (ld_glob I hg hm ?_ hdb)
  refine PySem.W.callWith_K (h₀ := X.base) I.ok.mod.kin M.kp (thn (ha.run pos pins s σ H _ I h) fun us s1 q1 => ?_) hst hnp
  obtain ⟨vs, H1, I1, r, q⟩ := q1
  exact ⟨I1.kIn, run_makeS M F hr hb hd (hx σ) I1 r q⟩
/-- C(e, ..) with the made part named -/
theorem pe_makeR {E1 : XK} (M : Mk X.K C f) (F : FnOk X.prog X.w X.K X.mg X.base CX k f fd ps sp) (hr : Room (k + 1) X.A) (hg : Gl X x) (hm : X.mg x = some (.ref C)) (hb : Binds X.K fd ps ds) (hd : Vals dvs ds) (hx : Passes CX X E1) (ha : PA X (e :: es) t)
    (hdb : (x == ("__debug__" : Str)) = false := by decide) (hst : starEach (e :: es) X.env = (false, eval e X.env) :: starEach es X.env := by rfl) (hnp : (backTo pos (starEach es X.env)).any (·.1) = false := by rfl) :
    PE X (.Call (.Name x p) (e :: es) [] pos) (tMakeS C sp dvs (fun _ => E1) t) := pe_makeS M F hr hg hm hb hd (fun σ pins H s e s' I c => hx pins σ H s e s' I c) ha hdb hst hnp
theorem w_makeS {σ : L2.St} {H : Hp} {Q : VK} (h : t σ H fun vs H1 => rMakeS C sp dvs (E σ) vs H1 Q) : tMakeS C sp dvs E t σ H Q := h
end
theorem exm_own {K : PySem.W.Frag} {D C : Addr} {b : Bool} (h1 : PySem.W.subIn K (.ref C) (.type "BaseException") = some true) (h2 : PySem.W.isClsIn K C = true) (h3 : PySem.W.typeIn K (.ref C) = some (.type "type")) (h4 : PySem.W.subIn K (.ref D) (.ref C) = some b) :
    PySem.W.exmOne K (.ref D) (.ref C) = some b := by
  have h2' : (PySem.W.clsIn K C).isSome = true := h2
  unfold PySem.W.exmOne
  rw [h1, if_pos (by simp)]
  simp only [PySem.W.kitCls]
  rw [h2', h3, if_pos (by simp)]
  exact h4
/-- e.f of a caught error -/
abbrev rXf (a : Addr) (cls : Value) (d : Option Addr) (C : Addr) (f : Str) : V → Hp → VK → Prop := fun x H1 Q => x = .ref a ∧ cls = .ref C ∧ ∃ (dd : Addr) (fs : List (Str × V)) (v : V), d = some dd ∧ H1 dd = some (.xd fs) ∧ fs.lookup f = some v ∧ Q v H1
section
variable {σ : L2.St} {H : Hp} {Q : VK} {a C dd : Addr} {cls : Value} {d : Option Addr} {f g : Str} {te : TE} {fs : List (Str × V)} {v w : V} {K : PySem.W.Frag} {p q : Addr}
theorem w_xf (h : te σ H fun x H1 => rXf a cls d C f x H1 Q) : tXf a cls d C f te σ H Q := h
theorem n_xf (hd : H dd = some (.xd fs)) (hl : fs.lookup f = some v) (k : Q v H) : rXf a (.ref C) (some dd) C f (.ref a) H Q := ⟨rfl, rfl, dd, fs, v, rfl, hd, hl, k⟩
theorem lk_1 {r : List (Str × V)} : List.lookup f ((f, v) :: r) = some v := by simp
theorem lk_2 {r : List (Str × V)} (h : (g == f) = false) : List.lookup g ((f, v) :: (g, w) :: r) = some w := by
  rw [List.lookup_cons, h]
  simp
/-- == of lists of data -/
theorem n_eqD {d e : PyData} {x y : V} (h1 : Dp K H x d) (h2 : Dp K H y e) (s1 : SeqAt.shaped d = true) (s2 : SeqAt.shaped e = true) (k : Q (.bl (PyData.eqv d e)) H) : rEqD K x y H Q := ⟨d, e, h1, h2, s1, s2, k⟩
theorem n_neD {d e : PyData} {x y : V} (h1 : Dp K H x d) (h2 : Dp K H y e) (s1 : SeqAt.shaped d = true) (s2 : SeqAt.shaped e = true) (k : Q (.bl (!PyData.eqv d e)) H) : rNeD K x y H Q := ⟨d, e, h1, h2, s1, s2, k⟩
/-- is None, is not None -/
theorem n_isN {x : V} (k : Q (.bl (decide (x = .non))) H) : L2.rIsN x .non H Q := ⟨rfl, k⟩
theorem n_notN {x : V} (k : Q (.bl (!decide (x = .non))) H) : L2.rNotN x .non H Q := ⟨rfl, k⟩
end
end AT

end

section
/-! Fractions in lowest terms: plain arithmetic. -/
namespace AT
/-- smaller than 2 ^ n -/
def Bn (n : Nat) (i : Int) : Prop := i.natAbs < 2 ^ n
instance {n : Nat} {i : Int} : Decidable (Bn n i) := inferInstanceAs (Decidable (i.natAbs < 2 ^ n))
theorem Bn.mono {m n : Nat} {i : Int} (h : Bn m i) (l : m ≤ n) : Bn n i := Nat.lt_of_lt_of_le h (Nat.pow_le_pow_right (by decide) l)
theorem Bn.neg {n : Nat} {i : Int} (h : Bn n i) : Bn n (-i) := by unfold Bn at *; rw [Int.natAbs_neg]; exact h
theorem Bn.mul {m n : Nat} {i j : Int} (h : Bn m i) (l : Bn n j) : Bn (m + n) (i * j) := by
  unfold Bn at *
  rw [Int.natAbs_mul, Nat.pow_add]
  exact Nat.mul_lt_mul'' h l
theorem Bn.add {n : Nat} {i j : Int} (h : Bn n i) (l : Bn n j) : Bn (n + 1) (i + j) := by
  unfold Bn at *
  have := Int.natAbs_add_le i j
  rw [Nat.pow_succ]
  omega
theorem Bn.sub {n : Nat} {i j : Int} (h : Bn n i) (l : Bn n j) : Bn (n + 1) (i - j) := by
  rw [Int.sub_eq_add_neg]
  exact h.add l.neg
theorem Bn.le {n : Nat} {i j : Int} (h : Bn n j) (l : i.natAbs ≤ j.natAbs) : Bn n i := Nat.lt_of_le_of_lt l h
theorem Bn.pos {n : Nat} {i : Int} (h : Bn n i) : 0 ≤ n := Nat.zero_le _
theorem Bn.log {n : Nat} {i : Int} (h : Bn n i) (h0 : 0 < n) : i.natAbs.log2 < n := by
  unfold Bn at h
  by_cases hz : i.natAbs = 0
  · rw [hz]; simpa using h0
  · exact (Nat.log2_lt hz).mpr h
theorem Bn.log' {n m : Nat} {i : Int} (h : Bn n i) (h0 : n < m) : i.natAbs.log2 < m := Bn.log (h.mono (Nat.le_of_lt h0)) (by omega)
theorem Bn.nat {n k : Nat} (h : k < 2 ^ n) : Bn n (k : Int) := by unfold Bn; simpa using h
theorem Bn.abs {n : Nat} {i : Int} (h : Bn n i) : Bn n (i.natAbs : Int) := by unfold Bn at *; simpa using h

/-! ### one step of the common divisor -/
theorem rest_eq {a b : Int} (hb : 0 < b) : a - b * (a.fdiv b) = a % b := by
  rw [Int.fdiv_eq_ediv_of_nonneg a (by omega)]
  have := Int.emod_add_mul_ediv a b
  omega
theorem gcd_step {a b : Int} (hb : 0 < b) : Int.gcd b (a - b * (a.fdiv b)) = Int.gcd a b := by
  have e : a - b * (a.fdiv b) = a + b * (-(a.fdiv b)) := by rw [Int.mul_neg]; omega
  rw [e, Int.gcd_comm, Int.gcd_add_mul_left_left]
theorem abs_if (i : Int) : (if i < 0 then -i else i) = (i.natAbs : Int) := by split <;> omega

/-! ### lowest terms -/
theorem fdiv_dvd {a g : Int} (hg : g ≠ 0) (h : g ∣ a) : a.fdiv g * g = a := by
  exact Int.fdiv_mul_cancel_of_dvd h
theorem fdiv_eq {a g k : Int} (hg : g ≠ 0) (h : a = k * g) : a.fdiv g = k := by
  subst h
  exact Int.mul_fdiv_cancel k hg
/-- the part that is divided out -/
def part (t b : Int) : Int := if b < 0 then -(Int.gcd t b : Int) else (Int.gcd t b : Int)
theorem part_ne {t b : Int} (hb : b ≠ 0) : part t b ≠ 0 := by
  have h : Int.gcd t b ≠ 0 := fun e => hb (Int.gcd_eq_zero_iff.mp e).2
  unfold part
  split <;> omega
theorem num_eq {t b : Int} (hb : b ≠ 0) : t.fdiv (part t b) = (Rat.divInt t b).num := by
  obtain ⟨k, hk⟩ : ((Int.gcd t b : Nat) : Int) ∣ t := Int.gcd_dvd_left t b
  have h : (Int.gcd t b : Int) ≠ 0 := by
    have : Int.gcd t b ≠ 0 := fun e => hb (Int.gcd_eq_zero_iff.mp e).2
    omega
  rw [Rat.num_divInt, Int.gcd_comm b t]
  unfold part
  split
  · rename_i hn
    rw [Int.sign_eq_neg_one_of_neg hn]
    have e1 : t.fdiv (-(Int.gcd t b : Int)) = -k := fdiv_eq (by omega) (by rw [Int.neg_mul_neg, Int.mul_comm]; exact hk)
    rw [e1]
    refine (Int.ediv_eq_of_eq_mul_left h ?_).symm
    rw [Int.neg_mul, Int.one_mul, Int.neg_mul, Int.mul_comm k, ← hk]
  · rename_i hn
    have hp : 0 < b := by omega
    rw [Int.sign_eq_one_of_pos hp, Int.one_mul]
    have e1 : t.fdiv (Int.gcd t b : Int) = k := fdiv_eq h (by rw [Int.mul_comm]; exact hk)
    rw [e1]
    refine (Int.ediv_eq_of_eq_mul_left h ?_).symm
    rw [Int.mul_comm, ← hk]
theorem den_eq {t b : Int} (hb : b ≠ 0) : b.fdiv (part t b) = ((Rat.divInt t b).den : Int) := by
  obtain ⟨k, hk⟩ : ((Int.gcd t b : Nat) : Int) ∣ b := Int.gcd_dvd_right t b
  have h : (Int.gcd t b : Int) ≠ 0 := by
    have : Int.gcd t b ≠ 0 := fun e => hb (Int.gcd_eq_zero_iff.mp e).2
    omega
  rw [Rat.den_divInt, if_neg hb, Int.gcd_comm b t, Int.natCast_ediv]
  unfold part
  split
  · rename_i hn
    have e1 : b.fdiv (-(Int.gcd t b : Int)) = -k := fdiv_eq (by omega) (by rw [Int.neg_mul_neg, Int.mul_comm]; exact hk)
    rw [e1]
    refine (Int.ediv_eq_of_eq_mul_left h ?_).symm
    have : (b.natAbs : Int) = -b := by omega
    rw [this, Int.neg_mul, Int.mul_comm k, ← hk]
  · rename_i hn
    have e1 : b.fdiv (Int.gcd t b : Int) = k := fdiv_eq h (by rw [Int.mul_comm]; exact hk)
    rw [e1]
    refine (Int.ediv_eq_of_eq_mul_left h ?_).symm
    have : (b.natAbs : Int) = b := by omega
    rw [this, Int.mul_comm k, ← hk]
theorem den_pos (q : Rat) : 0 < (q.den : Int) := by have := q.den_pos; omega
theorem gcd_low (q : Rat) : Int.gcd q.num q.den = 1 := q.reduced
/-- as a fraction the two are the same -/
theorem cross {t b : Int} (hb : b ≠ 0) : (Rat.divInt t b).num * b = t * ((Rat.divInt t b).den : Int) := by
  have h1 := num_eq (t := t) hb
  have h2 := den_eq (t := t) hb
  have hp := part_ne (t := t) hb
  have d1 : part t b ∣ t := by
    have := Int.gcd_dvd_left t b
    unfold part
    split
    · exact (Int.neg_dvd).mpr this
    · exact this
  have d2 : part t b ∣ b := by
    have := Int.gcd_dvd_right t b
    unfold part
    split
    · exact (Int.neg_dvd).mpr this
    · exact this
  have e1 := fdiv_dvd hp d1
  have e2 := fdiv_dvd hp d2
  rw [h1] at e1
  rw [h2] at e2
  generalize (Rat.divInt t b).num = n at *
  generalize ((Rat.divInt t b).den : Int) = d at *
  generalize part t b = p at *
  subst e1
  rw [← e2]
  grind
theorem num_le {t b : Int} (hb : b ≠ 0) : (Rat.divInt t b).num.natAbs ≤ t.natAbs := by
  have h1 := num_eq (t := t) hb
  have d1 : part t b ∣ t := by
    have := Int.gcd_dvd_left t b
    unfold part
    split
    · exact (Int.neg_dvd).mpr this
    · exact this
  have e1 := fdiv_dvd (part_ne (t := t) hb) d1
  rw [h1] at e1
  have := part_ne (t := t) hb
  have e2 := congrArg Int.natAbs e1
  rw [Int.natAbs_mul] at e2
  have hpp : 0 < (part t b).natAbs := Int.natAbs_pos.mpr this
  rw [← e2]
  exact Nat.le_mul_of_pos_right _ hpp
theorem den_le {t b : Int} (hb : b ≠ 0) : (Rat.divInt t b).den ≤ b.natAbs := by
  have h1 := den_eq (t := t) hb
  have d1 : part t b ∣ b := by
    have := Int.gcd_dvd_right t b
    unfold part
    split
    · exact (Int.neg_dvd).mpr this
    · exact this
  have e1 := fdiv_dvd (part_ne (t := t) hb) d1
  rw [h1] at e1
  have := part_ne (t := t) hb
  have e2 := congrArg Int.natAbs e1
  rw [Int.natAbs_mul, Int.natAbs_natCast] at e2
  have hpp : 0 < (part t b).natAbs := Int.natAbs_pos.mpr this
  rw [← e2]
  exact Nat.le_mul_of_pos_right _ hpp
end AT
namespace AT
theorem fdiv_abs {a b : Int} (hb : 0 < b) (ha : 0 ≤ a) : (a.fdiv b).natAbs ≤ a.natAbs := by
  rw [Int.fdiv_eq_ediv_of_nonneg a (by omega)]
  have h1 := Int.ediv_nonneg ha (by omega : 0 ≤ b)
  have h2 := Int.ediv_le_self b ha
  omega
end AT
namespace AT
theorem part_bn {n : Nat} {t b : Int} (ht : Bn n t) (hb : Bn n b) (h0 : b ≠ 0) : Bn n (part t b) := by
  have h1 : (Int.gcd t b : Int).natAbs ≤ b.natAbs := by
    rw [Int.natAbs_natCast]
    exact Nat.le_of_dvd (by omega) (Int.gcd_dvd_natAbs_right t b)
  unfold part
  split
  · exact (hb.le h1).neg
  · exact hb.le h1
end AT
namespace AT
theorem bn_of {n : Nat} {m i : Int} (hm : Bn n m) (h1 : -m ≤ i) (h2 : i ≤ m) : Bn n i := hm.le (by omega)
theorem divInt_neg {t b : Int} : Rat.divInt (-t) (-b) = Rat.divInt t b := Rat.neg_divInt_neg t b
theorem divInt_one {t : Int} : Rat.divInt t 1 = (t : Rat) := by rw [Rat.divInt_eq_div]; grind
end AT
namespace AT
theorem qd (q : Rat) : q = Rat.divInt q.num q.den := by rw [Rat.divInt_ofNat, Rat.mkRat_self]
theorem dne (q : Rat) : (q.den : Int) ≠ 0 := by have := q.den_nz; omega
theorem add_eq (q r : Rat) : Rat.divInt (q.num * r.den + r.num * q.den) (q.den * r.den) = q + r := by
  conv => rhs; rw [qd q, qd r, Rat.divInt_add_divInt _ _ (dne q) (dne r)]
theorem sub_eq (q r : Rat) : Rat.divInt (q.num * r.den - r.num * q.den) (q.den * r.den) = q - r := by
  conv => rhs; rw [qd q, qd r, Rat.divInt_sub_divInt _ _ (dne q) (dne r)]
theorem mul_eq (q r : Rat) : Rat.divInt (q.num * r.num) (q.den * r.den) = q * r := by
  conv => rhs; rw [qd q, qd r, Rat.divInt_mul_divInt _ _]
theorem addI_eq (q : Rat) (i : Int) : Rat.divInt (q.num + i * q.den) q.den = q + (i : Rat) := by
  have h := add_eq q i
  rw [Rat.num_intCast, Rat.den_intCast] at h
  simpa using h
theorem subI_eq (q : Rat) (i : Int) : Rat.divInt (q.num - i * q.den) q.den = q - (i : Rat) := by
  have h := sub_eq q i
  rw [Rat.num_intCast, Rat.den_intCast] at h
  simpa using h
theorem rsubI_eq (q : Rat) (i : Int) : Rat.divInt (i * q.den - q.num) q.den = (i : Rat) - q := by
  have h := sub_eq i q
  rw [Rat.num_intCast, Rat.den_intCast] at h
  simpa using h
theorem mulI_eq (q : Rat) (i : Int) : Rat.divInt (q.num * i) q.den = q * (i : Rat) := by
  have h := mul_eq q i
  rw [Rat.num_intCast, Rat.den_intCast] at h
  simpa using h
end AT
namespace AT
theorem fdiv_scale {a b c : Int} (hc : c ≠ 0) : (a * c).fdiv (b * c) = a.fdiv b := by
  rcases Int.lt_or_gt_of_ne hc with h | h
  · have e : (a * c).fdiv (b * c) = (a * (-c)).fdiv (b * (-c)) := by
      rw [Int.mul_neg, Int.mul_neg, Int.neg_fdiv_neg]
    rw [e, Int.mul_comm a, Int.mul_comm b]
    exact Int.mul_fdiv_mul_of_pos _ _ (by omega)
  · rw [Int.mul_comm a, Int.mul_comm b]
    exact Int.mul_fdiv_mul_of_pos _ _ h
theorem fdiv_cross {a b c d : Int} (hb : b ≠ 0) (hd : d ≠ 0) (e : a * d = c * b) : a.fdiv b = c.fdiv d := by
  rw [← fdiv_scale (a := a) (b := b) hd, ← fdiv_scale (a := c) (b := d) hb, e, Int.mul_comm b d]
theorem fdiv_small {a b : Int} : (a.fdiv b).natAbs ≤ a.natAbs := by
  by_cases hb : b = 0
  · subst hb; simp
  have key : ∀ {a b : Int}, 0 < b → (a.fdiv b).natAbs ≤ a.natAbs := by
    intro a b hb
    rw [Int.fdiv_eq_ediv_of_nonneg _ (by omega)]
    rcases (by omega : a < 0 ∨ 0 ≤ a) with h | h
    · have h1 : a / b < 0 := Int.ediv_neg_of_neg_of_pos h hb
      have h2 : a ≤ a / b := by
        apply Int.le_ediv_of_mul_le hb
        have : a * b ≤ a * 1 := Int.mul_le_mul_of_nonpos_left (by omega) (by omega)
        omega
      omega
    · have h1 : 0 ≤ a / b := Int.ediv_nonneg h (by omega)
      have h2 : a / b ≤ a := Int.ediv_le_self _ h
      omega
  rcases Int.lt_or_gt_of_ne hb with h | h
  · have := key (a := -a) (b := -b) (by omega)
    rw [Int.neg_fdiv_neg] at this
    omega
  · exact key h
/-- floor of the quotient -/
def fl (q r : Rat) : Int := (q.num * r.den).fdiv (q.den * r.num)
theorem flI_eq (q : Rat) (i : Int) : q.num.fdiv (q.den * i) = fl q (i : Rat) := by unfold fl; simp
theorem rflI_eq (q : Rat) (i : Int) : (i * q.den).fdiv q.num = fl (i : Rat) q := by unfold fl; simp
theorem rat_num0 {t b : Int} (hb : b ≠ 0) : (Rat.divInt t b).num = 0 ↔ t = 0 := by
  have c := cross (t := t) hb
  have d := den_pos (Rat.divInt t b)
  constructor
  · intro h
    rw [h, Int.zero_mul] at c
    rcases Int.mul_eq_zero.mp c.symm with h | h
    · exact h
    · omega
  · intro h
    subst h
    rw [Int.zero_mul] at c
    rcases Int.mul_eq_zero.mp c with h | h
    · exact h
    · exact absurd h hb
theorem fl_div {t b t' b' : Int} (hb : b ≠ 0) (hb' : b' ≠ 0) (ht' : t' ≠ 0) : fl (Rat.divInt t b) (Rat.divInt t' b') = (t * b').fdiv (b * t') := by
  have c1 := cross (t := t) hb
  have c2 := cross (t := t') hb'
  have d1 := den_pos (Rat.divInt t b)
  have d2 := den_pos (Rat.divInt t' b')
  have n2 : (Rat.divInt t' b').num ≠ 0 := fun h => ht' ((rat_num0 hb').mp h)
  unfold fl
  generalize (Rat.divInt t b).num = n at *
  generalize ((Rat.divInt t b).den : Int) = d at *
  generalize (Rat.divInt t' b').num = n' at *
  generalize ((Rat.divInt t' b').den : Int) = d' at *
  refine fdiv_cross (Int.mul_ne_zero (by omega) n2) (Int.mul_ne_zero hb ht') ?_
  have e1 : n * d' * (b * t') = (n * b) * (t' * d') := by ac_rfl
  have e2 : t * b' * (d * n') = (t * d) * (n' * b') := by ac_rfl
  rw [e1, e2, c1, c2]
theorem bn_fl {q r : Rat} {m n : Nat} (h1 : Bn m q.num) (h2 : Bn n (r.den : Int)) : Bn (m + n) (fl q r) := (h1.mul h2).le fdiv_small
end AT
namespace AT
theorem lt_num (q r : Rat) : q < r ↔ q.num * r.den < r.num * q.den := Rat.lt_iff q r
/-- the sign of a difference of two quotients -/
theorem sgn {t b t' b' : Int} (h : b ≠ 0) (h' : b' ≠ 0) : ∃ m : Int, 0 < m ∧ ∃ m' : Int, 0 < m' ∧ ((t * b' - t' * b) * b * b') * m = ((Rat.divInt t b).num * ((Rat.divInt t' b').den : Int) - (Rat.divInt t' b').num * ((Rat.divInt t b).den : Int)) * m' := by
  have c1 := cross (t := t) h
  have c2 := cross (t := t') h'
  have d1 := den_pos (Rat.divInt t b)
  have d2 := den_pos (Rat.divInt t' b')
  generalize (Rat.divInt t b).num = n at *
  generalize ((Rat.divInt t b).den : Int) = d at *
  generalize (Rat.divInt t' b').num = n' at *
  generalize ((Rat.divInt t' b').den : Int) = d' at *
  refine ⟨d * d', Int.mul_pos d1 d2, (b * b') * (b * b'), ?_, ?_⟩
  · have z := Int.mul_ne_zero h h'
    rcases Int.lt_or_gt_of_ne z with z | z
    · exact Int.mul_pos_of_neg_of_neg z z
    · exact Int.mul_pos z z
  · have e1 : (t * b' - t' * b) * b * b' * (d * d') = (t * d) * (b' * b * b' * d') - (t' * d') * (b * b * b' * d) := by
      rw [Int.sub_mul, Int.sub_mul, Int.sub_mul]
      congr 1 <;> ac_rfl
    have e2 : (n * d' - n' * d) * (b * b' * (b * b')) = (n * b) * (b' * b * b' * d') - (n' * b') * (b * b * b' * d) := by
      rw [Int.sub_mul]
      congr 1 <;> ac_rfl
    rw [e1, e2, c1, c2]
theorem sgn_lt {t b t' b' : Int} (h : b ≠ 0) (h' : b' ≠ 0) : (t * b' - t' * b) * b * b' < 0 ↔ Rat.divInt t b < Rat.divInt t' b' := by
  obtain ⟨m, hm, m', hm', e⟩ := sgn (t := t) (t' := t') h h'
  rw [lt_num]
  generalize (t * b' - t' * b) * b * b' = s at *
  generalize (Rat.divInt t b).num * ((Rat.divInt t' b').den : Int) = x at *
  generalize (Rat.divInt t' b').num * ((Rat.divInt t b).den : Int) = y at *
  constructor
  · intro hs
    have : (x - y) * m' < 0 := by rw [← e]; exact Int.mul_neg_of_neg_of_pos hs hm
    have := Int.neg_of_mul_neg_left this (by omega)
    omega
  · intro hs
    have : s * m < 0 := by rw [e]; exact Int.mul_neg_of_neg_of_pos (by omega) hm'
    exact Int.neg_of_mul_neg_left this (by omega)
theorem rat_eq_num (q r : Rat) : q = r ↔ q.num * r.den = r.num * q.den := by
  constructor
  · rintro rfl; rfl
  · intro h
    refine Rat.le_antisymm ?_ ?_
    · rw [Rat.le_iff]; omega
    · rw [Rat.le_iff]; omega
theorem sgn_eq {t b t' b' : Int} (h : b ≠ 0) (h' : b' ≠ 0) : (t * b' - t' * b) * b * b' = 0 ↔ Rat.divInt t b = Rat.divInt t' b' := by
  obtain ⟨m, hm, m', hm', e⟩ := sgn (t := t) (t' := t') h h'
  rw [rat_eq_num]
  generalize (t * b' - t' * b) * b * b' = s at *
  generalize (Rat.divInt t b).num * ((Rat.divInt t' b').den : Int) = x at *
  generalize (Rat.divInt t' b').num * ((Rat.divInt t b).den : Int) = y at *
  constructor
  · intro hs
    subst hs
    rw [Int.zero_mul] at e
    rcases Int.mul_eq_zero.mp e.symm with h | h <;> omega
  · intro hs
    have : x - y = 0 := by omega
    rw [this, Int.zero_mul] at e
    rcases Int.mul_eq_zero.mp e with h | h <;> omega
/-- the sign s tells how q stands to r -/
structure Sgn (q r : Rat) (s : Int) : Prop where
  lt : s < 0 ↔ q < r
  eq : s = 0 ↔ q = r
theorem Sgn.of {t b t' b' : Int} (h : b ≠ 0) (h' : b' ≠ 0) : Sgn (Rat.divInt t b) (Rat.divInt t' b') ((t * b' - t' * b) * b * b') := ⟨sgn_lt h h', sgn_eq h h'⟩
theorem Sgn.gt {q r : Rat} {s : Int} (h : Sgn q r s) : s > 0 ↔ r < q := by
  constructor
  · intro hs
    have h1 : ¬ q < r := fun z => by have := h.lt.mpr z; omega
    have h2 : ¬ q = r := fun z => by have := h.eq.mpr z; omega
    rw [Rat.not_lt] at h1
    exact Rat.lt_iff_le_and_ne.mpr ⟨h1, fun e => h2 e.symm⟩
  · intro hs
    have h1 : ¬ s < 0 := fun z => Rat.not_lt.mpr (Rat.le_iff_lt_or_eq.mpr (.inl hs)) (h.lt.mp z)
    have h2 : ¬ s = 0 := fun z => by rw [h.eq.mp z] at hs; exact Rat.lt_irrefl hs
    omega
theorem Sgn.le {q r : Rat} {s : Int} (h : Sgn q r s) : s ≤ 0 ↔ q ≤ r := by
  rw [← Rat.not_lt, ← h.gt]; omega
theorem Sgn.ge {q r : Rat} {s : Int} (h : Sgn q r s) : s ≥ 0 ↔ r ≤ q := by
  rw [← Rat.not_lt, ← h.lt]; omega
theorem Sgn.swap {q r : Rat} {s : Int} (h : Sgn q r s) : Sgn r q (-s) := ⟨by rw [← h.gt]; omega, by rw [eq_comm (a := r), ← h.eq]; omega⟩
theorem ltI (q : Rat) (i : Int) : q.num < i * q.den ↔ q < (i : Rat) := by rw [lt_num]; simp
theorem leI (q : Rat) (i : Int) : q.num ≤ i * q.den ↔ q ≤ (i : Rat) := by rw [Rat.le_iff]; simp
theorem gtI (q : Rat) (i : Int) : q.num > i * q.den ↔ (i : Rat) < q := by rw [lt_num]; simp
theorem geI (q : Rat) (i : Int) : q.num ≥ i * q.den ↔ (i : Rat) ≤ q := by rw [Rat.le_iff]; simp
end AT
namespace AT
theorem neg_eq (q : Rat) : Rat.divInt (-q.num) q.den = -q := by
  conv => rhs; rw [qd q]
  exact (Rat.neg_divInt _ _).symm
theorem neg_div {t b : Int} : -(Rat.divInt t b) = Rat.divInt (-t) b := Rat.neg_divInt _ _
theorem dvC {t b t' b' : Int} : Rat.divInt t b * Rat.divInt t' b' = Rat.divInt (t * t') (b * b') := Rat.divInt_mul_divInt _ _
theorem pow_div {t b : Int} : ∀ n : Nat, (Rat.divInt t b) ^ n = Rat.divInt (t ^ n) (b ^ n)
  | 0 => by rw [Rat.pow_zero, Int.pow_zero, Int.pow_zero, divInt_one]; rfl
  | n + 1 => by rw [Rat.pow_succ, pow_div n, dvC, ← Int.pow_succ, ← Int.pow_succ]
theorem pow_ne {b : Int} (h : b ≠ 0) : ∀ n : Nat, b ^ n ≠ 0
  | 0 => by simp
  | n + 1 => by rw [Int.pow_succ]; exact Int.mul_ne_zero (pow_ne h n) h
theorem bn_pow {m : Nat} {t : Int} (h : Bn m t) : ∀ n : Nat, Bn (m * n + 1) (t ^ n)
  | 0 => by rw [Int.pow_zero, Nat.mul_zero]; decide
  | n + 1 => by
    rw [Int.pow_succ]
    exact ((bn_pow h n).mul h).mono (by rw [Nat.mul_succ]; omega)
theorem quo_eq {t b t' b' : Int} (h : b ≠ 0) (h' : b' ≠ 0) (n : t' ≠ 0) : Rat.divInt ((Rat.divInt t b).num * (Rat.divInt t' b').den) ((Rat.divInt t b).den * (Rat.divInt t' b').num) = Rat.divInt (t * b') (b * t') := by
  have c1 := cross (t := t) h
  have c2 := cross (t := t') h'
  have d1 := den_pos (Rat.divInt t b)
  have d2 := den_pos (Rat.divInt t' b')
  have n2 : (Rat.divInt t' b').num ≠ 0 := fun e => n ((rat_num0 h').mp e)
  generalize (Rat.divInt t b).num = x at *
  generalize ((Rat.divInt t b).den : Int) = d at *
  generalize (Rat.divInt t' b').num = x' at *
  generalize ((Rat.divInt t' b').den : Int) = d' at *
  rw [Rat.divInt_eq_divInt_iff (Int.mul_ne_zero (by omega) n2) (Int.mul_ne_zero h n)]
  have e1 : x * d' * (b * t') = (x * b) * (t' * d') := by ac_rfl
  have e2 : t * b' * (d * x') = (t * d) * (x' * b') := by ac_rfl
  rw [e1, e2, c1, c2]
theorem abs_div {t b : Int} (h : b ≠ 0) {s : Int} (hs : if t * b < 0 then s = -1 else s = 1) : Rat.divInt ((Rat.divInt t b).num.natAbs : Int) (Rat.divInt t b).den = Rat.divInt (s * t) b := by
  have c := cross (t := t) h
  have d := den_pos (Rat.divInt t b)
  have q := qd (Rat.divInt t b)
  have bb : 0 < b * b := by
    rcases Int.lt_or_gt_of_ne h with z | z
    · exact Int.mul_pos_of_neg_of_neg z z
    · exact Int.mul_pos z z
  have key : (Rat.divInt t b).num * (b * b) = (t * b) * (Rat.divInt t b).den := by
    rw [← Int.mul_assoc, c]; ac_rfl
  by_cases z : t * b < 0
  · rw [if_pos z] at hs
    subst hs
    have hn : (Rat.divInt t b).num < 0 := by
      have : (Rat.divInt t b).num * (b * b) < 0 := by rw [key]; exact Int.mul_neg_of_neg_of_pos z d
      exact Int.neg_of_mul_neg_left this (by omega)
    have e : ((Rat.divInt t b).num.natAbs : Int) = -(Rat.divInt t b).num := by omega
    rw [e, neg_eq, neg_div, Int.neg_mul, Int.one_mul]
  · rw [if_neg z] at hs
    subst hs
    have hn : 0 ≤ (Rat.divInt t b).num := by
      have : 0 ≤ (Rat.divInt t b).num * (b * b) := by rw [key]; exact Int.mul_nonneg (by omega) (by omega)
      rcases (by omega : (Rat.divInt t b).num < 0 ∨ 0 ≤ (Rat.divInt t b).num) with w | w
      · have := Int.mul_neg_of_neg_of_pos w bb
        omega
      · exact w
    have e : ((Rat.divInt t b).num.natAbs : Int) = (Rat.divInt t b).num := by omega
    rw [e, ← q, Int.one_mul]
end AT

end

section
/-! Operators of an own class in a try; two readings of one operator. -/
namespace AT
open PySem PySem.Spec PyProof.Rows L2
/-- an operation at slots that are told -/
def OpRA (X : Cx) (σ : L2.St) (f : Value → Value → Sem Value) (r : R2) : Prop :=
  ∀ (pins : List (Addr × Obj)) (s : Shared) (H : Hp) (x y : V) (v u : Value) (Q : VK), Inv X pins σ H s → RelV x v → RelV y u → r x y H Q →
    wpAny (model X.prog X.w) X.A (f v u) (EP X pins σ Q) X.xe s
def tOpS (r : L2.St → R2) (ta tb : TE) : TE := fun σ H Q => ta σ H fun x H1 => tb σ H1 fun y H2 => r σ x y H2 Q
def rOr2 (r r' : R2) : R2 := fun x y H Q => r x y H Q ∨ r' x y H Q
section
variable {X : Cx} {CX : CXT} {C l r : Addr} {fd fd' : FuncData} {ps ps' : List Str} {n : Nat} {sp sp' : Sp} {E E' : XK} {op : Operator} {σ : L2.St} {f : Value → Value → Sem Value} {a b : Expr} {ta tb : TE} {pos : Pos} {W : WX}
theorem pe_opS {r : L2.St → R2} (ho : ∀ σ, OpRA X σ (binaryOp op) (r σ)) (ha : PE X a ta) (hb : PE X b tb) : PE X (.BinOp a op b pos) (tOpS r ta tb) := by
  refine ⟨fun pins s σ H Q I h => ?_⟩
  exact wpAny_BinOp (binT ha hb I h fun v u s2 x y H2 I2 rx ry q => ho σ pins s2 H2 x y v u Q I2 rx ry q)
theorem w_opS {r : L2.St → R2} {H : Hp} {Q : VK} (h : ta σ H fun x H1 => tb σ H1 fun y H2 => r σ x y H2 Q) : tOpS r ta tb σ H Q := h
theorem OpRA.or {r r' : R2} (h : OpRA X σ f r) (h' : OpRA X σ f r') : OpRA X σ f (rOr2 r r') := fun pins s H x y v u Q I rx ry q => q.elim (h pins s H x y v u Q I rx ry) (h' pins s H x y v u Q I rx ry)
theorem OpR.or {r r' : R2} (h : OpR X f r) (h' : OpR X f r') : OpR X f (rOr2 r r') := fun pins s σ H x y v u Q I rx ry q => q.elim (h pins s σ H x y v u Q I rx ry) (h' pins s σ H x y v u Q I rx ry)
theorem run_twoA {g : Addr} {pins : List (Addr × Obj)} {H : Hp} {s : Shared} {Q : VK} {x y : V} {u v : Value} (F : FnOk X.prog X.w X.K X.mg X.base CX n g fd ps sp) (hr : Room n X.A) (hb : Binds X.K fd ps []) (hx : PassesAt CX X σ E) (I : Inv X pins σ H s)
    (rx : RelV x u) (ry : RelV y v) (h : sp [x, y] H Q E) : wpAny (model X.prog X.w) X.A (call (.ref g) [u, v]) (PySem.W.CmpBack (EP X pins σ Q)) X.xe s := by
  have z : wpAny (model X.prog X.w) X.A (call (.ref g) [u, v]) (EP X pins σ Q) X.xe s := run_fnS (E := fun _ => E) (us := [u, v]) (vs := [x, y]) F hr hb hx I (.cons rx (.cons ry .nil)) h
  refine thn z fun w s' q => ?_
  obtain ⟨z', H', I', rz, qz⟩ := q
  exact SlX.cmpback rz ⟨z', H', I', rz, qz⟩
theorem opA_ins (o : OwnC X.K C) (i : IntOp X.K C op l r) (F : FnOk X.prog X.w X.K X.mg X.base CX n l fd ps sp) (hr : Room n X.A) (hb : Binds X.K fd ps []) (hx : PassesAt CX X σ E) : OpRA X σ (binaryOp op) (rIns C sp E) := by
  intro pins s H x y v u Q I rx ry h
  obtain ⟨a, dx, fs, rfl, ha, hy, q⟩ := h
  obtain ⟨rc, e1, e2⟩ := i.rc
  obtain ⟨fo, h1⟩ := i.h1
  obtain ⟨ro, h2⟩ := i.h2
  cases (show v = Value.ref a from rx)
  obtain ⟨od, J⟩ := inst_at I ha
  rcases hy with ⟨j, rfl⟩ | ⟨b, dy, gs, rfl, hb'⟩
  · obtain ⟨t, rfl⟩ := (show ∃ t, u = Value.int j t from ry)
    obtain ⟨mm, hF⟩ := I.fr
    exact PySem.W.ksp_binT hF I.ok.mod.kin J rfl o.first i.ml.at_ i.ml.fn e1 e2 h1 h2 i.hs (run_twoA F hr hb hx I rel_ref rel_int q)
  · cases (show u = Value.ref b from ry)
    obtain ⟨od', J'⟩ := inst_at I hb'
    exact bin_same I.kIn J J' o.first i.ml.at_ i.ml.fn (run_twoA F hr hb hx I rel_ref rel_ref q)
theorem opA_intIns {lo : Addr} (d : IntDeclines op) (o : OwnC X.K C) (hl : PySem.W.findIn X.K (.ref C) (PySem.dunder op.info.2) = some (some (.ref lo))) (m : OwnM X.K C l (dunderR op.info.2))
    (F : FnOk X.prog X.w X.K X.mg X.base CX n l fd ps sp) (hr : Room n X.A) (hb : Binds X.K fd ps []) (hx : PassesAt CX X σ E) : OpRA X σ (binaryOp op) (rIntIns C sp E) := by
  intro pins s H x y v u Q I rx ry h
  obtain ⟨i, b, dy, gs, rfl, rfl, hb', q⟩ := h
  obtain ⟨t, rfl⟩ := (show ∃ t, v = Value.int i t from rx)
  cases (show u = Value.ref b from ry)
  obtain ⟨od, J⟩ := inst_at I hb'
  obtain ⟨hfi, id, B, slot, entry, dd⟩ := d
  exact bin_refl I.kIn J o.first hl m.at_ m.fn o.notInt hfi slot entry (dd i t b).1 (dd i t b).2 (run_twoA F hr hb hx I rel_ref rel_int q)
theorem passX (tk : Takes X (fun cls d _ H => E cls d H)) : Passes (L2.CX X.prog X.w) X E := L2.passes_call tk fun _ _ _ _ h => h
theorem exm_ZDE {K : PySem.W.Frag} : PySem.W.exmOne K (.type "ZeroDivisionError") (.type "ZeroDivisionError") = some true := by kernel_rfl
/-- // that may be by zero, named -/
def rFdX (W : XK) : R2 := fun x y H Q => ∃ i j, x = .int i ∧ y = .int j ∧ ((j ≠ 0 ∧ j.natAbs.log2 < 9000 ∧ Q (.int (i.fdiv j)) H) ∨ (j = 0 ∧ ∀ d, W (.type "ZeroDivisionError") d H))
theorem op_fdX {W : XK} (hc : X.calm = true) (tk : Takes X (fun cls d _ H => W cls d H)) : OpR X (binaryOp .FloorDiv) (rFdX W) := op_fdivX hc tk
theorem w_fdX {W : XK} {H : Hp} {Q : VK} {i j : Int} (h0 : j = 0 → ∀ d, W (.type "ZeroDivisionError") d H) (hl : Bn 8900 j) (h : j ≠ 0 → Q (.int (i.fdiv j)) H) : rFdX W (.int i) (.int j) H Q := by
  by_cases e : j = 0
  · exact ⟨i, j, rfl, rfl, .inr ⟨e, h0 e⟩⟩
  · exact ⟨i, j, rfl, rfl, .inl ⟨e, hl.log' (by decide), h e⟩⟩
/-- isinstance(x, (c1, ..)) -/
theorem w_isiT {K : PySem.W.Frag} {x : V} {tp : Addr} {cs : List V} {t : Value} {us : List Value} {b : Bool} {H : Hp} {Q : VK} (u : H tp = some (.tup cs)) (k : Paired ClsV cs us) (ty : TyX K H x t) (e : PySem.W.kitAny K t us = some b) (h : Q (.bl b) H) : rIsiT K [x, .ref tp] H Q := ⟨x, tp, cs, t, us, b, rfl, u, k, ty, e, h⟩
theorem kitAny_hit {K : PySem.W.Frag} {t c : Value} {r : List Value} (h : PySem.W.kitOne K t c = some true) : PySem.W.kitAny K t (c :: r) = some true := by
  unfold PySem.W.kitAny
  rw [h]
theorem kitAny_miss {K : PySem.W.Frag} {t c : Value} {r : List Value} {b : Bool} (h : PySem.W.kitOne K t c = some false) (h' : PySem.W.kitAny K t r = some b) : PySem.W.kitAny K t (c :: r) = some b := by
  conv => lhs; unfold PySem.W.kitAny
  rw [h]
  exact h'
end
/-- a list comprehension -/
theorem w_lc {wi : TI} {g : TG} {tt : TT} {te : TE} {vs : List Nat} {σ : L2.St} {H : Hp} {Q : VK} (h : wi σ H fun J H1 => ∀ D, H1 D = none → ∃ W : Nat → Nat → Hp → Prop, (∃ m, W 0 m (upd H1 D (.lst []))) ∧ ∀ i m H, W i m H →
  (J.stop i H ∧ Q (.ref D) H) ∨ (J.go i H ∧ ∃ Nx : Hp → Prop, (∀ H', Nx H' → ∃ m', m' < m ∧ W (i + 1) m' H') ∧ ∀ x H', J.yld i H x H' → g x (L2.wipe σ vs) H' fun σ2 H2 => L2.wipe σ2 vs = L2.wipe σ vs ∧ tt σ2 H2 fun b H3 =>
    if b = true then te σ2 H3 fun y H4 => ∃ acc, H4 D = some (.lst acc) ∧ acc.length < sizeLine ∧ Nx (upd H4 D (.lst (acc ++ [y]))) else Nx H3)) : tLc wi g tt te vs σ H Q := h
/-- str(i) -/
def rStrI : List V → Hp → VK → Prop := fun xs H Q => ∃ i, xs = [.int i] ∧ i.natAbs.log2 < 1920 ∧ Q (.str (toString i)) H
theorem call_strR {X : Cx} : CallR X (.type "str") rStrI := call_str_int
theorem w_strI {i : Int} {H : Hp} {Q : VK} (b : Bn 1900 i) (k : Q (.str (toString i)) H) : rStrI [.int i] H Q := ⟨i, rfl, b.log' (by decide), k⟩
end AT

end

section
/-! abs, bool of an own class; methods in a try. -/
namespace AT
open PySem PySem.Spec PyProof.Rows L2
/-- abs(x) by x's own method, bool(x) likewise -/
def rOwn1 (C : Addr) (sp : Sp) (E : XK) : List V → Hp → VK → Prop := fun xs H Q => ∃ a dx fs, xs = [.ref a] ∧ H a = some (.ins C dx fs) ∧ sp [.ref a] H Q E
def rOwnB (C : Addr) (sp : Sp) (E : XK) : List V → Hp → VK → Prop := fun xs H Q => ∃ a dx fs, xs = [.ref a] ∧ H a = some (.ins C dx fs) ∧ sp [.ref a] H (fun z H' => ∃ k, z = .bl k ∧ Q (.bl k) H') E
section
variable {X : Cx} {CX : CXT} {C g : Addr} {fd : FuncData} {ps : List Str} {n : Nat} {sp : Sp} {E : XK}
theorem run_deep1 {A : Around} {pins : List (Addr × Obj)} {σ : L2.St} {H : Hp} {s : Shared} {Q : VK} {x : V} {u : Value} (F : FnOk X.prog X.w X.K X.mg X.base CX n g fd ps sp) (hr : Room n A) (e0 : Env0 X.prog X.w X.K X.mg X.base A X.stack s H) (hb : Binds X.K fd ps []) (hx : Passes CX X E)
    (I : Inv X pins σ H s) (rx : RelV x u) (h : sp [x] H Q E) : wpAny (model X.prog X.w) A (call (.ref g) [u]) (EP X pins σ Q) X.xe s := by
  have r2 : Vals [x] [u] := .cons rx .nil
  have hl : [u].length = ps.length := by rw [← r2.length]; exact F.len _ _ _ _ h
  refine wpAny_call (codeAny_mono (F.run A X.stack s H ⟨[u], []⟩ [u] [x] Q E hr e0 (by have := hb s [u] I.kIn (by simpa using hl); simpa using this) r2 h) fun r s' hq => ?_)
  cases r with
  | error e => exact hx pins σ H s e s' I hq
  | ok fl => cases fl with
    | ret w => exact I.after hq
    | next => exact (show False from hq).elim
    | brk => exact (show False from hq).elim
    | cont => exact (show False from hq).elim
theorem call_absOwn (m : OwnM X.K C g "__abs__") (F : FnOk X.prog X.w X.K X.mg X.base CX n g fd ps sp) (hr : Room (n + 1) X.A) (hb : Binds X.K fd ps []) (hx : Passes CX X E) : CallR X (.builtin "abs") (rOwn1 C sp E) := by
  intro pins s σ H xs us Q I r h
  obtain ⟨a, dx, fs, rfl, ha, q⟩ := h
  obtain ⟨u, rfl, r1⟩ := vals1 r
  cases (show u = Value.ref a from r1)
  obtain ⟨od, J⟩ := inst_at I ha
  refine PySem.Calls.call_function_entry kind_abs plain_abs entry_abs (args_abs _) ?_
  unfold Builtin.«abs»
  refine wpAny_bind (m := oneArg "abs" _) (wpAny_pure ?_)
  refine wpAny_bind (m := callSpecial? (.ref a) (Str.ofString "__abs__")) (PySem.W.special_fn I.kIn J m.at_ (beq_iff_eq.mp m.fn) (thn (run_deep1 F hr.in1 I.env0.in1 hb hx I rel_ref q) fun w s' z => ?_))
  exact wpAny_pure ⟨w, rfl, z⟩
theorem tru_own {A : Around} {pins : List (Addr × Obj)} {σ : L2.St} {H : Hp} {s : Shared} {Q : Bool → Hp → Prop} {a dx : Addr} {fs : List (Str × V)} (m : OwnM X.K C g "__bool__") (F : FnOk X.prog X.w X.K X.mg X.base CX n g fd ps sp) (hr : Room n A) (e0 : Env0 X.prog X.w X.K X.mg X.base A X.stack s H) (hb : Binds X.K fd ps []) (hx : Passes CX X E)
    (I : Inv X pins σ H s) (ha : H a = some (.ins C dx fs)) (h : sp [.ref a] H (fun z H' => ∃ k, z = .bl k ∧ Q k H') E) : wpAny (model X.prog X.w) A (truthy (.ref a)) (TP X pins σ Q) X.xe s := by
  obtain ⟨od, J⟩ := inst_at I ha
  unfold truthy
  have main : ∀ {Q' : Option Value → Shared → Prop}, (∀ (k : Bool) s', TP X pins σ Q k s' → Q' (some (.bool k)) s') → wpAny (model X.prog X.w) A (callSpecial? (.ref a) (Str.ofString "__bool__")) Q' X.xe s := fun {Q'} hq =>
    PySem.W.special_fn I.kIn J m.at_ (beq_iff_eq.mp m.fn) (thn (run_deep1 F hr e0 hb hx I rel_ref h) fun w s' z => by
      obtain ⟨z', H', I', rz, k, rfl, qz⟩ := z
      cases (show w = Value.bool k from rz)
      exact hq k s' ⟨H', I', qz⟩)
  first
    | refine wpAny_bind (main fun k s' z => ?_)
    | refine wpAny_bind (wpAny_pure (wpAny_bind (main fun k s' z => ?_)))
  exact wpAny_pure z
theorem call_boolOwn (m : OwnM X.K C g "__bool__") (F : FnOk X.prog X.w X.K X.mg X.base CX n g fd ps sp) (hr : Room (n + 2) X.A) (hb : Binds X.K fd ps []) (hx : Passes CX X E) : CallR X (.type "bool") (rOwnB C sp E) := by
  intro pins s σ H xs us Q I r h
  obtain ⟨a, dx, fs, rfl, ha, q⟩ := h
  obtain ⟨u, rfl, r1⟩ := vals1 r
  cases (show u = Value.ref a from r1)
  refine callType_newIn (S := fun A R s => wpAny (model X.prog X.w) A.in1 (truthy (.ref a)) (fun b s' => R (.ok (.ret (.bool b))) s') (fun e s' => R (.error e) s') s) PySem.F.called_bool PySem.F.newNe_bool (PySem.F.typeCall_bool_1 _) (PySem.F.newCall_bool_1 _) (fun obj => PySem.F.args_object_init_2 obj _) PySem.F.entry_bool_new
    (MeetsIn.of_wp fun A R s hs => ?_) ?_
  · obtain ⟨hp, g, d, tk, os⟩ := s
    have f1 := PySem.F.conv_sub_bool
    repeat (any_goals (first | assumption | with_reducible refine wpAny_mono hs (fun b s' z => ?_) (fun _ _ z => z) | wp_step))
    all_goals exact ⟨_, rfl, z⟩
  · show wpAny _ _ _ _ _ _
    refine wpAny_mono (tru_own (Q := fun k H' => Q (.bl k) H') m F hr.in1.in1 I.env0.in1.in1 hb hx I ha q) (fun b s' z => ?_) (fun _ _ z => z)
    obtain ⟨H', I', qz⟩ := z
    exact ⟨rfl, .bl b, H', I', rfl, qz⟩
/-- o.m(e, ..) in a try -/
def tMethS (C : Addr) (m : Str) (sp : Sp) (dvs : List V) (E : L2.St → XK) (ta : TE) (t : TA) : TE := fun σ H Q => ta σ H fun x H1 => ∃ a dx fs, x = .ref a ∧ H1 a = some (.ins C dx fs) ∧ fs.lookup m = none ∧ t σ H1 fun vs H2 => sp (.ref a :: (vs ++ dvs)) H2 Q (E σ)
theorem pe_methA {f : Addr} {m : Str} {o e : Expr} {es : List Expr} {E : L2.St → XK} {ta : TE} {t : TA} {apos pos : Pos} {pl : Sem Bool} (he : PE X o ta) (c : Cls X.K C) (hm : Meth X.K C m f) (F : FnOk X.prog X.w X.K X.mg X.base CX n f fd ps sp) (hr : Room n X.A) (hb : Binds X.K fd ps []) (hx : ∀ σ, PassesAt CX X σ (E σ)) (ha : PA X (e :: es) t)
    (hst : starEach (e :: es) X.env = (false, eval e X.env) :: starEach es X.env := by rfl) (hpl : (backTo pos (starEach es X.env)).any (·.1) = false := by rfl)
    (ht : eval (.Call (.Attribute o m apos) (e :: es) [] pos) X.env = (do
      let ov ← eval o X.env
      standAt apos.atName
      let (f, first) ← holding [ov] (getMethod ov m pl)
      callWith pos f first (backTo pos (starEach (e :: es) X.env)) (backToKw pos (keywordEach [] X.env))) := by rfl) :
    PE X (.Call (.Attribute o m apos) (e :: es) [] pos) (tMethS C m sp [] E ta t) := by
  refine ⟨fun pins s σ H Q I h => ?_⟩
  refine PySem.W.methodCall_KW (pl := pl) (thn (he.run pins s σ H _ I h) fun u s1 ⟨x, H1, I1, rx, a, dx, fs, ex, ea, l, q⟩ => ?_) ht
  subst ex
  obtain rfl : u = Value.ref a := rx
  refine getmeth_ok I1 ea c hm l ?_
  refine PySem.W.callWith_K (first := [.ref a]) (h₀ := X.base) I.ok.mod.kin hm.kp (thn (ha.run pos pins s1 σ H1 _ I1 q) fun us s2 ⟨vs, H2, I2, r, q2⟩ => ⟨I2.kIn, ?_⟩) hst hpl
  exact run_fnS (us := .ref a :: us) (vs := .ref a :: vs) F hr hb (hx σ) I2 (.cons rfl r) (by simpa using q2)
theorem w_methS {m : Str} {E : L2.St → XK} {ta : TE} {t : TA} {dvs : List V} {σ : L2.St} {H : Hp} {Q : VK} (h : ta σ H fun x H1 => ∃ a dx fs, x = .ref a ∧ H1 a = some (.ins C dx fs) ∧ fs.lookup m = none ∧ t σ H1 fun vs H2 => sp (.ref a :: (vs ++ dvs)) H2 Q (E σ)) : tMethS C m sp dvs E ta t σ H Q := h
/-- -x, named -/
theorem w_gtup {K : PySem.W.Frag} {k : Nat} {t : TGs} {p : Addr} {xs : List V} {σ : L2.St} {H : Hp} {Q : L2.St → Hp → Prop} (u : SqT K H p xs) (e : xs.length = k) (h : t xs σ H Q) : gTup K k t (.ref p) σ H Q := ⟨p, xs, rfl, u, e, h⟩
end
end AT

end
namespace AT
open PySem L2
def top (i : Nat) : Stmt := PySem.Challenge.pw_anytune_k06_powers_and_quotients.main.body.getD i (.Pass ⟨0, 0, 0, 0⟩)
abbrev s_NoMoment___init__ : Stmt := inClass (top 2) 0
theorem sc_NoMoment___init__ : FnScope ["self", "top", "bottom"] ["self", "top", "bottom"] (defScope s_NoMoment___init__) := ⟨rfl, rfl, rfl, by decide +kernel, rfl, by decide +kernel, by decide +kernel⟩
abbrev s_common : Stmt := top 7
theorem sc_common : FnScope ["a", "b"] ["a", "b"] (defScope s_common) := ⟨rfl, rfl, rfl, by decide +kernel, rfl, by decide +kernel, by decide +kernel⟩
abbrev s_Moment___init__ : Stmt := inClass (top 8) 0
theorem sc_Moment___init__ : FnScope ["self", "top", "bottom", "part"] ["self", "top", "bottom"] (defScope s_Moment___init__) := ⟨rfl, rfl, rfl, by decide +kernel, rfl, by decide +kernel, by decide +kernel⟩
abbrev s_Moment___mul__ : Stmt := inClass (top 8) 5
theorem sc_Moment___mul__ : FnScope ["self", "other"] ["self", "other"] (defScope s_Moment___mul__) := ⟨rfl, rfl, rfl, by decide +kernel, rfl, by decide +kernel, by decide +kernel⟩
abbrev s_Moment___rmul__ : Stmt := inClass (top 8) 6
theorem sc_Moment___rmul__ : FnScope ["self", "other"] ["self", "other"] (defScope s_Moment___rmul__) := ⟨rfl, rfl, rfl, by decide +kernel, rfl, by decide +kernel, by decide +kernel⟩
abbrev s_Moment___pow__ : Stmt := inClass (top 8) 11
theorem sc_Moment___pow__ : FnScope ["self", "other", "result", "k"] ["self", "other"] (defScope s_Moment___pow__) := ⟨rfl, rfl, rfl, by decide +kernel, rfl, by decide +kernel, by decide +kernel⟩
abbrev s_Moment___neg__ : Stmt := inClass (top 8) 12
theorem sc_Moment___neg__ : FnScope ["self"] ["self"] (defScope s_Moment___neg__) := ⟨rfl, rfl, rfl, by decide +kernel, rfl, by decide +kernel, by decide +kernel⟩
abbrev s_Moment___abs__ : Stmt := inClass (top 8) 13
theorem sc_Moment___abs__ : FnScope ["self"] ["self"] (defScope s_Moment___abs__) := ⟨rfl, rfl, rfl, by decide +kernel, rfl, by decide +kernel, by decide +kernel⟩
abbrev s_Moment___bool__ : Stmt := inClass (top 8) 14
theorem sc_Moment___bool__ : FnScope ["self"] ["self"] (defScope s_Moment___bool__) := ⟨rfl, rfl, rfl, by decide +kernel, rfl, by decide +kernel, by decide +kernel⟩
abbrev s_Moment_over : Stmt := inClass (top 8) 20
theorem sc_Moment_over : FnScope ["self", "other", "divisor"] ["self", "other"] (defScope s_Moment_over) := ⟨rfl, rfl, rfl, by decide +kernel, rfl, by decide +kernel, by decide +kernel⟩
abbrev s_as_moment : Stmt := top 9
theorem sc_as_moment : FnScope ["value"] ["value"] (defScope s_as_moment) := ⟨rfl, rfl, rfl, by decide +kernel, rfl, by decide +kernel, by decide +kernel⟩
abbrev s__law_cell : Stmt := top 13
theorem sc__law_cell : FnScope ["_law_script", "_law_k"] ["_law_script", "_law_k"] (defScope s__law_cell) := ⟨rfl, rfl, rfl, by decide +kernel, rfl, by decide +kernel, by decide +kernel⟩
abbrev s__law_row : Stmt := top 14
theorem sc__law_row : FnScope ["_law_cell_here", "_law_sizes", "_law_out", "_law_size", "_law_seed", "_law_k", "_law_mixed"] ["_law_cell_here", "_law_sizes"] (defScope s__law_row) := ⟨rfl, rfl, rfl, by decide +kernel, rfl, by decide +kernel, by decide +kernel⟩
abbrev s__law_whole : Stmt := top 15
theorem sc__law_whole : FnScope ["_law_cell_here", "_law_most"] ["_law_cell_here", "_law_most"] (defScope s__law_whole) := ⟨rfl, rfl, rfl, by decide +kernel, rfl, by decide +kernel, by decide +kernel⟩
abbrev s__law_ratio : Stmt := top 16
theorem sc__law_ratio : FnScope ["_law_a", "_law_b", "_law_most", "_law_bottom"] ["_law_a", "_law_b", "_law_most"] (defScope s__law_ratio) := ⟨rfl, rfl, rfl, by decide +kernel, rfl, by decide +kernel, by decide +kernel⟩
abbrev s__law_gcd : Stmt := top 17
theorem sc__law_gcd : FnScope ["_law_a", "_law_b", "_law_rest"] ["_law_a", "_law_b"] (defScope s__law_gcd) := ⟨rfl, rfl, rfl, by decide +kernel, rfl, by decide +kernel, by decide +kernel⟩
abbrev s__law_is_int : Stmt := top 18
theorem sc__law_is_int : FnScope ["_law_actual"] ["_law_actual"] (defScope s__law_is_int) := ⟨rfl, rfl, rfl, by decide +kernel, rfl, by decide +kernel, by decide +kernel⟩
abbrev s__law_holds : Stmt := top 19
theorem sc__law_holds : FnScope ["_law_actual", "_law_top", "_law_bottom"] ["_law_actual", "_law_top", "_law_bottom"] (defScope s__law_holds) := ⟨rfl, rfl, rfl, by decide +kernel, rfl, by decide +kernel, by decide +kernel⟩
abbrev s__law_power : Stmt := top 20
theorem sc__law_power : FnScope ["_law_top", "_law_n", "_law_out", "_law_k"] ["_law_top", "_law_n"] (defScope s__law_power) := ⟨rfl, rfl, rfl, by decide +kernel, rfl, by decide +kernel, by decide +kernel⟩
abbrev s__law_quotient : Stmt := top 21
theorem sc__law_quotient : FnScope ["_law_a", "_law_b", "_law_top", "_law_bottom", "_law_other_top", "_law_other_bottom", "_law_actual", "_law_failed"] ["_law_a", "_law_b", "_law_top", "_law_bottom", "_law_other_top", "_law_other_bottom"] (defScope s__law_quotient) := ⟨rfl, rfl, rfl, by decide +kernel, rfl, by decide +kernel, by decide +kernel⟩
abbrev s_law : Stmt := top 22
theorem sc_law : FnScope ["_law_script", "_law_row_here", "_law_one", "_law_two", "_law_a", "_law_powers", "_law_actual", "_law_n", "_law_tiny", "_law_sign"] ["_law_script"] (defScope s_law) := ⟨rfl, rfl, rfl, by decide +kernel, rfl, by decide +kernel, by decide +kernel⟩
structure Tx (K : PySem.W.Frag) (mg : Str → Option Value) where
  a_NoMoment___init__ : Addr
  d_NoMoment___init__ : FuncData
  F_NoMoment___init__ : Fun K "__init__" "NoMoment.__init__" s_NoMoment___init__ a_NoMoment___init__ d_NoMoment___init__
  a_common : Addr
  d_common : FuncData
  F_common : Fun K "common" "common" s_common a_common d_common
  g_common : mg "common" = some (.ref a_common)
  a_Moment___init__ : Addr
  d_Moment___init__ : FuncData
  F_Moment___init__ : FunD K "__init__" "Moment.__init__" (defArgs s_Moment___init__) (defBody s_Moment___init__) (defScope s_Moment___init__) [.int 1] [] a_Moment___init__ d_Moment___init__
  a_Moment___mul__ : Addr
  d_Moment___mul__ : FuncData
  F_Moment___mul__ : Fun K "__mul__" "Moment.__mul__" s_Moment___mul__ a_Moment___mul__ d_Moment___mul__
  a_Moment___rmul__ : Addr
  d_Moment___rmul__ : FuncData
  F_Moment___rmul__ : Fun K "__rmul__" "Moment.__rmul__" s_Moment___rmul__ a_Moment___rmul__ d_Moment___rmul__
  a_Moment___pow__ : Addr
  d_Moment___pow__ : FuncData
  F_Moment___pow__ : Fun K "__pow__" "Moment.__pow__" s_Moment___pow__ a_Moment___pow__ d_Moment___pow__
  a_Moment___neg__ : Addr
  d_Moment___neg__ : FuncData
  F_Moment___neg__ : Fun K "__neg__" "Moment.__neg__" s_Moment___neg__ a_Moment___neg__ d_Moment___neg__
  a_Moment___abs__ : Addr
  d_Moment___abs__ : FuncData
  F_Moment___abs__ : Fun K "__abs__" "Moment.__abs__" s_Moment___abs__ a_Moment___abs__ d_Moment___abs__
  a_Moment___bool__ : Addr
  d_Moment___bool__ : FuncData
  F_Moment___bool__ : Fun K "__bool__" "Moment.__bool__" s_Moment___bool__ a_Moment___bool__ d_Moment___bool__
  a_Moment_over : Addr
  d_Moment_over : FuncData
  F_Moment_over : Fun K "over" "Moment.over" s_Moment_over a_Moment_over d_Moment_over
  a_as_moment : Addr
  d_as_moment : FuncData
  F_as_moment : Fun K "as_moment" "as_moment" s_as_moment a_as_moment d_as_moment
  g_as_moment : mg "as_moment" = some (.ref a_as_moment)
  a__law_cell : Addr
  d__law_cell : FuncData
  F__law_cell : Fun K "_law_cell" "_law_cell" s__law_cell a__law_cell d__law_cell
  g__law_cell : mg "_law_cell" = some (.ref a__law_cell)
  a__law_row : Addr
  d__law_row : FuncData
  F__law_row : Fun K "_law_row" "_law_row" s__law_row a__law_row d__law_row
  g__law_row : mg "_law_row" = some (.ref a__law_row)
  a__law_whole : Addr
  d__law_whole : FuncData
  F__law_whole : Fun K "_law_whole" "_law_whole" s__law_whole a__law_whole d__law_whole
  g__law_whole : mg "_law_whole" = some (.ref a__law_whole)
  a__law_ratio : Addr
  d__law_ratio : FuncData
  F__law_ratio : Fun K "_law_ratio" "_law_ratio" s__law_ratio a__law_ratio d__law_ratio
  g__law_ratio : mg "_law_ratio" = some (.ref a__law_ratio)
  a__law_gcd : Addr
  d__law_gcd : FuncData
  F__law_gcd : Fun K "_law_gcd" "_law_gcd" s__law_gcd a__law_gcd d__law_gcd
  g__law_gcd : mg "_law_gcd" = some (.ref a__law_gcd)
  a__law_is_int : Addr
  d__law_is_int : FuncData
  F__law_is_int : Fun K "_law_is_int" "_law_is_int" s__law_is_int a__law_is_int d__law_is_int
  g__law_is_int : mg "_law_is_int" = some (.ref a__law_is_int)
  a__law_holds : Addr
  d__law_holds : FuncData
  F__law_holds : Fun K "_law_holds" "_law_holds" s__law_holds a__law_holds d__law_holds
  g__law_holds : mg "_law_holds" = some (.ref a__law_holds)
  a__law_power : Addr
  d__law_power : FuncData
  F__law_power : Fun K "_law_power" "_law_power" s__law_power a__law_power d__law_power
  g__law_power : mg "_law_power" = some (.ref a__law_power)
  a__law_quotient : Addr
  d__law_quotient : FuncData
  F__law_quotient : Fun K "_law_quotient" "_law_quotient" s__law_quotient a__law_quotient d__law_quotient
  g__law_quotient : mg "_law_quotient" = some (.ref a__law_quotient)
  a_law : Addr
  d_law : FuncData
  F_law : Fun K "law" "law" s_law a_law d_law
  g_law : mg "law" = some (.ref a_law)
  C_AnytuneError : Addr
  g_AnytuneError : mg "AnytuneError" = some (.ref C_AnytuneError)
  rd_AnytuneError : ClX.CRead K C_AnytuneError (.type "type")
  in_AnytuneError : PySem.W.findCls K (.ref C_AnytuneError) (.type "type") "__init__" = some (.val (.builtin "ValueError.__init__"))
  C_NoMoment : Addr
  g_NoMoment : mg "NoMoment" = some (.ref C_NoMoment)
  ox_NoMoment : OexC K C_NoMoment
  xf_NoMoment : XfC K C_NoMoment
  em_NoMoment : PySem.W.exmOne K (.ref C_NoMoment) (.ref C_NoMoment) = some true
  na_NoMoment_top : PySem.W.findIn K (.ref C_NoMoment) "top" = some none
  na_NoMoment_bottom : PySem.W.findIn K (.ref C_NoMoment) "bottom" = some none
  C_Moment : Addr
  g_Moment : mg "Moment" = some (.ref C_Moment)
  o_Moment : OwnC K C_Moment
  k1_Moment : PySem.W.isClsIn K C_Moment = true
  k2_Moment : PySem.W.typeIn K (.ref C_Moment) = some (.type "type")
  k3_Moment : PySem.W.keepIn K (.ref C_Moment) = true
  mk_Moment : PySem.W.makesIn K C_Moment = true
  na_Moment_top : NoAttr K C_Moment "top"
  na_Moment_bottom : NoAttr K C_Moment "bottom"
  z_Moment_int : PySem.W.subIn K (.type "int") (.ref C_Moment) = some false
  z_Moment_str : PySem.W.subIn K (.type "str") (.ref C_Moment) = some false
  z_Moment_list : PySem.W.subIn K (.type "list") (.ref C_Moment) = some false
  z_Moment_tuple : PySem.W.subIn K (.type "tuple") (.ref C_Moment) = some false
  z_Moment_NoneType : PySem.W.subIn K (.type "NoneType") (.ref C_Moment) = some false
  z_Moment_bool : PySem.W.subIn K (.type "bool") (.ref C_Moment) = some false
  ne_Moment : PySem.W.findIn K (.ref C_Moment) "__ne__" = some (some (.builtin "object.__ne__"))
  io_mul : IntOp K C_Moment .Mult a_Moment___mul__ a_Moment___rmul__
  ior_mul : OwnM K C_Moment a_Moment___rmul__ (dunderR (Operator.info .Mult).2)
  io_pow : IntOp K C_Moment .Pow a_Moment___pow__ a_Moment___pow__
  m_NoMoment___init__ : OwnM K C_NoMoment a_NoMoment___init__ "__init__"
  m_Moment___init__ : OwnM K C_Moment a_Moment___init__ "__init__"
  m_Moment___mul__ : OwnM K C_Moment a_Moment___mul__ "__mul__"
  m_Moment___rmul__ : OwnM K C_Moment a_Moment___rmul__ "__rmul__"
  m_Moment___pow__ : OwnM K C_Moment a_Moment___pow__ "__pow__"
  m_Moment___neg__ : OwnM K C_Moment a_Moment___neg__ "__neg__"
  m_Moment___abs__ : OwnM K C_Moment a_Moment___abs__ "__abs__"
  m_Moment___bool__ : OwnM K C_Moment a_Moment___bool__ "__bool__"
  m_Moment_over : OwnM K C_Moment a_Moment_over "over"
  n_abs : mg "abs" = none
  n_isinstance : mg "isinstance" = none
  n_int : mg "int" = none
  n_range : mg "range" = none
  n_bool : mg "bool" = none
  n_ZeroDivisionError : mg "ZeroDivisionError" = none
  n_len : mg "len" = none
section
variable {K : PySem.W.Frag} {mg : Str → Option Value}
theorem Tx.b_NoMoment___init__ (T : Tx K mg) : Binds K T.d_NoMoment___init__ ["self", "top", "bottom"] [] := T.F_NoMoment___init__.binds (ps := ["self", "top", "bottom"]) fun _ _ _ _ _ _ us hl => match us, hl with | [_, _, _], _ => rfl
theorem Tx.b_common (T : Tx K mg) : Binds K T.d_common ["a", "b"] [] := T.F_common.binds (ps := ["a", "b"]) fun _ _ _ _ _ _ us hl => match us, hl with | [_, _], _ => rfl
theorem Tx.M_Moment (T : Tx K mg) : Mk K T.C_Moment T.a_Moment___init__ := ⟨T.mk_Moment, T.m_Moment___init__.at_, T.m_Moment___init__.fn, T.k3_Moment⟩
theorem Tx.mt_Moment___init__ (T : Tx K mg) : Meth K T.C_Moment "__init__" T.a_Moment___init__ := ⟨T.m_Moment___init__.at_, T.m_Moment___init__.fn, T.F_Moment___init__.kp⟩
theorem Tx.b_Moment___mul__ (T : Tx K mg) : Binds K T.d_Moment___mul__ ["self", "other"] [] := T.F_Moment___mul__.binds (ps := ["self", "other"]) fun _ _ _ _ _ _ us hl => match us, hl with | [_, _], _ => rfl
theorem Tx.mt_Moment___mul__ (T : Tx K mg) : Meth K T.C_Moment "__mul__" T.a_Moment___mul__ := ⟨T.m_Moment___mul__.at_, T.m_Moment___mul__.fn, T.F_Moment___mul__.kp⟩
theorem Tx.b_Moment___rmul__ (T : Tx K mg) : Binds K T.d_Moment___rmul__ ["self", "other"] [] := T.F_Moment___rmul__.binds (ps := ["self", "other"]) fun _ _ _ _ _ _ us hl => match us, hl with | [_, _], _ => rfl
theorem Tx.mt_Moment___rmul__ (T : Tx K mg) : Meth K T.C_Moment "__rmul__" T.a_Moment___rmul__ := ⟨T.m_Moment___rmul__.at_, T.m_Moment___rmul__.fn, T.F_Moment___rmul__.kp⟩
theorem Tx.b_Moment___pow__ (T : Tx K mg) : Binds K T.d_Moment___pow__ ["self", "other"] [] := T.F_Moment___pow__.binds (ps := ["self", "other"]) fun _ _ _ _ _ _ us hl => match us, hl with | [_, _], _ => rfl
theorem Tx.mt_Moment___pow__ (T : Tx K mg) : Meth K T.C_Moment "__pow__" T.a_Moment___pow__ := ⟨T.m_Moment___pow__.at_, T.m_Moment___pow__.fn, T.F_Moment___pow__.kp⟩
theorem Tx.b_Moment___neg__ (T : Tx K mg) : Binds K T.d_Moment___neg__ ["self"] [] := T.F_Moment___neg__.binds (ps := ["self"]) fun _ _ _ _ _ _ us hl => match us, hl with | [_], _ => rfl
theorem Tx.mt_Moment___neg__ (T : Tx K mg) : Meth K T.C_Moment "__neg__" T.a_Moment___neg__ := ⟨T.m_Moment___neg__.at_, T.m_Moment___neg__.fn, T.F_Moment___neg__.kp⟩
theorem Tx.b_Moment___abs__ (T : Tx K mg) : Binds K T.d_Moment___abs__ ["self"] [] := T.F_Moment___abs__.binds (ps := ["self"]) fun _ _ _ _ _ _ us hl => match us, hl with | [_], _ => rfl
theorem Tx.mt_Moment___abs__ (T : Tx K mg) : Meth K T.C_Moment "__abs__" T.a_Moment___abs__ := ⟨T.m_Moment___abs__.at_, T.m_Moment___abs__.fn, T.F_Moment___abs__.kp⟩
theorem Tx.b_Moment___bool__ (T : Tx K mg) : Binds K T.d_Moment___bool__ ["self"] [] := T.F_Moment___bool__.binds (ps := ["self"]) fun _ _ _ _ _ _ us hl => match us, hl with | [_], _ => rfl
theorem Tx.mt_Moment___bool__ (T : Tx K mg) : Meth K T.C_Moment "__bool__" T.a_Moment___bool__ := ⟨T.m_Moment___bool__.at_, T.m_Moment___bool__.fn, T.F_Moment___bool__.kp⟩
theorem Tx.b_Moment_over (T : Tx K mg) : Binds K T.d_Moment_over ["self", "other"] [] := T.F_Moment_over.binds (ps := ["self", "other"]) fun _ _ _ _ _ _ us hl => match us, hl with | [_, _], _ => rfl
theorem Tx.mt_Moment_over (T : Tx K mg) : Meth K T.C_Moment "over" T.a_Moment_over := ⟨T.m_Moment_over.at_, T.m_Moment_over.fn, T.F_Moment_over.kp⟩
theorem Tx.b_as_moment (T : Tx K mg) : Binds K T.d_as_moment ["value"] [] := T.F_as_moment.binds (ps := ["value"]) fun _ _ _ _ _ _ us hl => match us, hl with | [_], _ => rfl
theorem Tx.b__law_cell (T : Tx K mg) : Binds K T.d__law_cell ["_law_script", "_law_k"] [] := T.F__law_cell.binds (ps := ["_law_script", "_law_k"]) fun _ _ _ _ _ _ us hl => match us, hl with | [_, _], _ => rfl
theorem Tx.b__law_row (T : Tx K mg) : Binds K T.d__law_row ["_law_cell_here", "_law_sizes"] [] := T.F__law_row.binds (ps := ["_law_cell_here", "_law_sizes"]) fun _ _ _ _ _ _ us hl => match us, hl with | [_, _], _ => rfl
theorem Tx.b__law_whole (T : Tx K mg) : Binds K T.d__law_whole ["_law_cell_here", "_law_most"] [] := T.F__law_whole.binds (ps := ["_law_cell_here", "_law_most"]) fun _ _ _ _ _ _ us hl => match us, hl with | [_, _], _ => rfl
theorem Tx.b__law_ratio (T : Tx K mg) : Binds K T.d__law_ratio ["_law_a", "_law_b", "_law_most"] [] := T.F__law_ratio.binds (ps := ["_law_a", "_law_b", "_law_most"]) fun _ _ _ _ _ _ us hl => match us, hl with | [_, _, _], _ => rfl
theorem Tx.b__law_gcd (T : Tx K mg) : Binds K T.d__law_gcd ["_law_a", "_law_b"] [] := T.F__law_gcd.binds (ps := ["_law_a", "_law_b"]) fun _ _ _ _ _ _ us hl => match us, hl with | [_, _], _ => rfl
theorem Tx.b__law_is_int (T : Tx K mg) : Binds K T.d__law_is_int ["_law_actual"] [] := T.F__law_is_int.binds (ps := ["_law_actual"]) fun _ _ _ _ _ _ us hl => match us, hl with | [_], _ => rfl
theorem Tx.b__law_holds (T : Tx K mg) : Binds K T.d__law_holds ["_law_actual", "_law_top", "_law_bottom"] [] := T.F__law_holds.binds (ps := ["_law_actual", "_law_top", "_law_bottom"]) fun _ _ _ _ _ _ us hl => match us, hl with | [_, _, _], _ => rfl
theorem Tx.b__law_power (T : Tx K mg) : Binds K T.d__law_power ["_law_top", "_law_n"] [] := T.F__law_power.binds (ps := ["_law_top", "_law_n"]) fun _ _ _ _ _ _ us hl => match us, hl with | [_, _], _ => rfl
theorem Tx.b__law_quotient (T : Tx K mg) : Binds K T.d__law_quotient ["_law_a", "_law_b", "_law_top", "_law_bottom", "_law_other_top", "_law_other_bottom"] [] := T.F__law_quotient.binds (ps := ["_law_a", "_law_b", "_law_top", "_law_bottom", "_law_other_top", "_law_other_bottom"]) fun _ _ _ _ _ _ us hl => match us, hl with | [_, _, _, _, _, _], _ => rfl
theorem Tx.b_law (T : Tx K mg) : Binds K T.d_law ["_law_script"] [] := T.F_law.binds (ps := ["_law_script"]) fun _ _ _ _ _ _ us hl => match us, hl with | [_], _ => rfl
end
end AT
open AT
local macro_rules | `(tactic| walk_at "vc1") => `(tactic| (with_reducible first
  | refine w_seq ?_ | refine w_if ?_ | refine w_set ?_ | refine w_par ?_ | refine w_drop ?_ | refine w_ret ?_ | refine w_retN ?_ | refine w_next ?_
  | refine w_c ?_ | refine w_test ?_ | refine w_B ?_ | refine w_op ?_ | refine w_un ?_ | refine w_chain ?_ | refine w_and ?_ | refine w_or ?_ | refine w_not ?_
  | refine w_andV ?_ | refine w_orV ?_ | refine w_notV ?_ | refine w_ifE ?_ | refine w_nil ?_ | refine w_cons ?_ | refine w_call ?_ | refine w_callS ?_ | refine w_cb ?_
  | refine w_fld ?_ | refine w_sfld ?_ | refine w_lst ?_ | refine w_tup ?_ | refine w_bm ?_
  | refine w_rI0 ?_ | refine w_rU ?_ | refine w_eqI ?_ | refine w_neI ?_ | refine w_bl ?_ | refine w_blV ?_ | refine w_abs ?_ | refine w_int ?_ | refine w_two ?_ | refine w_iList ?_ | refine w_iTup ?_ | refine w_iRng1 ?_ | refine w_gname ?_ | refine w_intInt ?_ | refine w_intBool ?_ | refine w_boolBool ?_ | refine w_for ?_ | refine w_makeS ?_ | refine w_xf ?_ | refine n_isN ?_ | refine n_notN ?_ | refine w_opS ?_ | refine w_lc ?_ | refine i_yes rfl ?_ | refine i_no rfl ?_))
local macro_rules | `(tactic| walk_at "vc") => `(tactic| (repeat (first | (walk_at "vc1") | (refine w_var (by rfl) ?_) | (refine w_aug (by rfl) ?_) | (refine w_pow (by decide) ?_) | (refine w_mod (by decide) ?_))))
namespace AT
open PySem PySem.Spec PyProof.Rows L2
section
variable {P : Program} {w : World} {K : PySem.W.Frag} {mg : Str → Option Value} {base : Heap}
/-- two ints, both below 2 ^ 8000: their greatest common divisor -/
def spGcd : Sp := fun vs H Q _ => ∃ a b : Int, vs = [.int a, .int b] ∧ Bn 8000 a ∧ Bn 8000 b ∧ Q (.int (Int.gcd a b)) H
theorem c_gcd {a b : Int} {H : Hp} {Q : VK} {E : XK} (ha : Bn 8000 a) (hb : Bn 8000 b) (h : Q (.int (Int.gcd a b)) H) : spGcd [.int a, .int b] H Q E := ⟨a, b, rfl, ha, hb, h⟩
theorem gcd_turn {a b a0 b0 : Int} (hb : 0 < b) (ha : 0 ≤ a) (g : Int.gcd a b = Int.gcd a0 b0) (z : Bn 8000 b) : 0 ≤ b ∧ 0 ≤ a - b * (a.fdiv b) ∧ Int.gcd b (a - b * (a.fdiv b)) = Int.gcd a0 b0 ∧ Bn 8000 b ∧ Bn 8000 (a - b * (a.fdiv b)) ∧ (a - b * (a.fdiv b)).toNat < b.toNat := by
  have e := rest_eq (a := a) hb
  have h1 := Int.emod_nonneg a (by omega : b ≠ 0)
  have h2 := Int.emod_lt_of_pos a hb
  refine ⟨by omega, by omega, (gcd_step hb).trans g, z, z.le (by omega), by omega⟩
theorem gcd_out {a b a0 b0 : Int} (hb : ¬ 0 < b) (hb0 : 0 ≤ b) (ha : 0 ≤ a) (g : Int.gcd a b = Int.gcd a0 b0) : a = (Int.gcd a0 b0 : Int) := by
  have : b = 0 := by omega
  subst this
  rw [← g, Int.gcd_zero_right]
  omega
theorem ok_common (T : Tx K mg) : FnOk P w K mg base CX0 1 T.a_common T.d_common ["a", "b"] spGcd := by
  refine T.F_common.ok sc_common (fun vs H Q E h => ?_) (fun cdv A outer s H vs Q E hr h => ?_)
  · obtain ⟨a, b, rfl, _⟩ := h
    rfl
  · obtain ⟨a, b, rfl, ha, hb, k⟩ := h
    refine ⟨_, ((pss_cons (ps_set (i := 0) sc_common.nd rfl (Or.inl rfl) (pe_callB call_absR (by rfl) T.n_abs boot_abs (pa_cons (pv 0) pa_nil)))
 (pss_cons (ps_set (i := 1) sc_common.nd rfl (Or.inl rfl) (pe_callB call_absR (by rfl) T.n_abs boot_abs (pa_cons (pv 1) pa_nil)))
 (pss_cons (ps_while PassesOwn.never (pt_cmpR op_gt (pv 1) pe_int (nomark _)) (pss_one (ps_par (i := 0) (j := 1) rfl sc_common.nd rfl rfl (by decide) rfl rfl (pa_cons (pv 1) (pa_cons (pe_op op_sub (pv 0) (pe_op op_mulW (pv 1) (pe_op op_fdivG (pv 0) (pv 1)))) pa_nil)) rfl)))
 (pss_one (ps_ret (pv 0))))))), ?_⟩
    walk_at "vc"
    refine w_while (fun σ H' => H' = H ∧ ∃ x y : Int, σ = [some (.int x), some (.int y)] ∧ 0 ≤ x ∧ 0 ≤ y ∧ Int.gcd x y = Int.gcd a b ∧ Bn 8000 x ∧ Bn 8000 y) (fun σ _ => match σ with | [_, some (.int y)] => y.toNat | _ => 0)
      ⟨rfl, _, _, rfl, by omega, by omega, rfl, ha.abs, hb.abs⟩ ?_
    rintro σ H' ⟨rfl, x, y, rfl, hx, hy, g, bx, bY⟩
    walk_at "vc"
    refine i_dec (fun hp => ?_) (fun hp => ?_)
    · refine w_wturn ?_
      walk_at "vc"
      refine w_rI ⟨by omega, bY.log' (by decide)⟩ ?_
      obtain ⟨t1, t2, t3, t4, t5, t6⟩ := gcd_turn hp hx g bY
      refine w_rI (wide_mul (a := 8000) (b := 8000) bY (bx.le (fdiv_abs hp hx)) (by decide) (by decide) (by decide)) ?_
      walk_at "vc"
      exact ⟨t6, rfl, _, _, rfl, t1, t2, t3, t4, t5⟩
    · walk_at "vc"
      rw [gcd_out hp hy hx g]
      exact k
end
end AT
namespace AT
open PySem PySem.Spec PyProof.Rows L2
/-- the attributes of a moment -/
def momF (q : Rat) : List (Str × V) := [("top", .int q.num), ("bottom", .int (q.den : Int))]
theorem momF_new (q : Rat) : putF "bottom" (.int (q.den : Int)) (putF "top" (.int q.num) []) = momF q := by
  show (if ("top" : Str) = "bottom" then _ else (("top" : Str), V.int q.num) :: putF "bottom" _ []) = _
  rw [if_neg (by decide +kernel)]
  rfl
theorem momF_top (q : Rat) : (momF q).lookup ("top" : Str) = some (.int q.num) := rfl
theorem momF_bottom (q : Rat) : (momF q).lookup ("bottom" : Str) = some (.int (q.den : Int)) := by
  rw [← momF_new, lookup_putF, if_pos rfl]
/-- v is a moment that is worth q -/
def Mo (C : Addr) (H : Hp) (v : V) (q : Rat) : Prop := ∃ a dx, v = .ref a ∧ H a = some (.ins C dx (momF q))
theorem Mo.up {C : Addr} {H H' : Hp} {v : V} {q : Rat} (e : Ext H H') (h : Mo C H v q) : Mo C H' v q := by
  obtain ⟨a, dx, rfl, z⟩ := h
  exact ⟨a, dx, rfl, e _ _ z⟩
/-- small enough to reckon with: both parts below 2 ^ n -/
structure Sm (n : Nat) (q : Rat) : Prop where
  num : Bn n q.num
  den : Bn n (q.den : Int)
theorem Sm.mono {m n : Nat} {q : Rat} (h : Sm m q) (l : m ≤ n) : Sm n q := ⟨h.num.mono l, h.den.mono l⟩
theorem sm_div {n : Nat} {t b : Int} (hb : b ≠ 0) (ht : Bn n t) (hb' : Bn n b) : Sm n (Rat.divInt t b) := ⟨ht.le (num_le hb), hb'.le (by rw [Int.natAbs_natCast]; exact den_le hb)⟩
section
variable {P : Program} {w : World} {K : PySem.W.Frag} {mg : Str → Option Value} {base : Heap}
/-- an error of two values -/
def spErr2 (C : Addr) (f g : Str) : Sp := fun vs H Q _ => ∃ (a : Addr) (x y : V), vs = [.ref a, x, y] ∧ H a = some (exo a C none) ∧
  ∀ d H', H d = none → H' a = some (exo a C (some d)) → H' d = some (exd d [(g, y), (f, x)]) → (∀ b o, H b = some o → b ≠ a → H' b = some o) → Q .non H'
theorem ok_NoMoment___init__ (T : Tx K mg) : FnOk P w K mg base CX0 1 T.a_NoMoment___init__ T.d_NoMoment___init__ ["self", "top", "bottom"] (spErr2 T.C_NoMoment "top" "bottom") := by
  refine T.F_NoMoment___init__.ok sc_NoMoment___init__ (fun vs H Q E h => ?_) (fun cdv A outer s H vs Q E hr h => ?_)
  · obtain ⟨a, x, y, rfl, _⟩ := h
    rfl
  · obtain ⟨a, x, y, rfl, ha, k⟩ := h
    refine ⟨_, ((pss_cons (ps_expr (pe_clsinit rfl T.g_AnytuneError T.rd_AnytuneError T.in_AnytuneError (pa_cons (pv 0) (pa_cons pe_str pa_nil))))
 (pss_cons (ps_ost (pv 0) (pv 1))
 (pss_one (ps_ost (pv 0) (pv 2)))))), ?_⟩
    refine ⟨_, rfl, a, T.C_NoMoment, _, rfl, by decide, T.ox_NoMoment, ha, ?_⟩
    refine ⟨_, rfl, _, rfl, a, T.C_NoMoment, rfl, T.ox_NoMoment, T.na_NoMoment_top, .inl ⟨ha, fun dx nd ne => ?_⟩⟩
    refine ⟨_, rfl, _, rfl, a, T.C_NoMoment, rfl, T.ox_NoMoment, T.na_NoMoment_bottom, .inr ⟨dx, _, upd_same, by rw [upd_ne ne, upd_same], (by show 1 ≤ 900; decide), ?_⟩⟩
    refine k dx _ nd (by rw [upd_ne (Ne.symm ne), upd_same]) upd_same fun b o e hb => ?_
    rw [upd_ne (ne_of_none e nd), upd_ne hb, upd_ne (ne_of_none e nd)]
    exact e
/-- Moment(top, bottom) on a new instance -/
def spMom (C CE : Addr) : Sp := fun vs H Q E => ∃ (x dx : Addr) (t b : Int), vs = [.ref x, .int t, .int b] ∧ H x = some (.ins C dx []) ∧ Bn 8000 t ∧ Bn 8000 b ∧
  (b = 0 → ∀ d H', H d = none → Ext H H' → H' d = some (.xd [("bottom", .int b), ("top", .int t)]) → E (.ref CE) (some d) H') ∧
  (b ≠ 0 → Q .non (upd H x (.ins C dx (momF (Rat.divInt t b)))))
theorem ok_Moment___init__ (T : Tx K mg) : FnOk P w K mg base (L2.CX P w) 3 T.a_Moment___init__ T.d_Moment___init__ ["self", "top", "bottom"] (spMom T.C_Moment T.C_NoMoment) := by
  refine T.F_Moment___init__.ok sc_Moment___init__ (fun vs H Q E h => ?_) (fun cdv A outer s H vs Q E hr h => ?_)
  · obtain ⟨x, dx, t, b, rfl, _⟩ := h
    rfl
  · obtain ⟨x, dx, t, b, rfl, hx, ht, hb, kE, kQ⟩ := h
    have G_common : FnOk P w K mg base CX0 1 T.a_common T.d_common ["a", "b"] spGcd := ok_common T
    have G_err : FnOk P w K mg base CX0 1 T.a_NoMoment___init__ T.d_NoMoment___init__ ["self", "top", "bottom"] (spErr2 T.C_NoMoment "top" "bottom") := ok_NoMoment___init__ T
    have hr_common : Room 1 _ := hr.mono (by decide : 1 ≤ 2)
    refine ⟨_, ((pss_cons (ps_if (pt_cmpR op_eq (pv 2) pe_int (nomark _)) (pss_one (ps_raise rfl (takes_of rfl rfl rfl rfl) (pmk_oex T.ox_NoMoment T.m_NoMoment___init__.at_ (beq_iff_eq.mp T.m_NoMoment___init__.fn) G_err hr T.b_NoMoment___init__ .nil pass0 rfl T.g_NoMoment (pa_cons (pv 1) (pa_cons (pv 2) pa_nil))))) pss_nil)
 (pss_cons (ps_set (i := 3) sc_Moment___init__.nd rfl (Or.inl rfl) (pe_call G_common hr_common rfl T.g_common T.F_common.kp T.b_common .nil pass0 (pa_cons (pv 1) (pa_cons (pv 2) pa_nil))))
 (pss_cons (ps_if (pt_cmpR op_lt (pv 2) pe_int (nomark _)) (pss_one (ps_set (i := 3) sc_Moment___init__.nd rfl (Or.inl rfl) (pe_un un_neg (pv 3)))) pss_nil)
 (pss_cons (ps_fld (pv 0) (pe_op op_fdivG (pv 1) (pv 3)) rfl)
 (pss_one (ps_fld (pv 0) (pe_op op_fdivG (pv 2) (pv 3)) rfl))))))), ?_⟩
    walk_at "vc"
    refine i_dec (fun h0 => ?_) (fun h0 => ?_)
    · refine ⟨_, rfl, _, rfl, (by decide : 2 ≤ 1000), fun a na => ⟨a, _, _, rfl, upd_same, fun d H' nd h1 h2 kp => ⟨rfl, d, _, h1, h2, Ext.fresh (Ext.new na) nd, ?_⟩⟩⟩
      have nd' : H d = none := Ext.fresh (Ext.new na) nd
      refine kE h0 d _ nd' (fun q o e => ?_) upd_same
      rw [upd_ne (ne_of_none e nd'), del_ne (ne_of_none e na)]
      exact kp q o (by rw [upd_ne (ne_of_none e na)]; exact e) (ne_of_none e na)
    · walk_at "vc"
      refine c_gcd ht hb ?_
      walk_at "vc"
      have hp := part_ne (t := t) h0
      have pb : Bn 8000 (part t b) := part_bn ht hb h0
      refine i_dec (fun hn => ?_) (fun hn => ?_)
      · walk_at "vc"
        have e : -(Int.gcd t b : Int) = part t b := by unfold part; rw [if_pos hn]
        rw [e]
        refine w_rI ⟨hp, pb.log' (by decide)⟩ ?_
        walk_at "vc"
        refine ⟨x, _, dx, [], rfl, hx, T.o_Moment.cl, T.na_Moment_top, by decide, ?_⟩
        walk_at "vc"
        refine w_rI ⟨hp, pb.log' (by decide)⟩ ?_
        walk_at "vc"
        refine ⟨x, _, dx, _, rfl, upd_same, T.o_Moment.cl, T.na_Moment_bottom, (by show 1 < 1000; decide), ?_⟩
        have z := kQ h0
        rw [num_eq h0, den_eq h0, momF_new, upd_upd]
        exact z
      · walk_at "vc"
        have e : (Int.gcd t b : Int) = part t b := by unfold part; rw [if_neg hn]
        rw [e]
        refine w_rI ⟨hp, pb.log' (by decide)⟩ ?_
        walk_at "vc"
        refine ⟨x, _, dx, [], rfl, hx, T.o_Moment.cl, T.na_Moment_top, by decide, ?_⟩
        walk_at "vc"
        refine w_rI ⟨hp, pb.log' (by decide)⟩ ?_
        walk_at "vc"
        refine ⟨x, _, dx, _, rfl, upd_same, T.o_Moment.cl, T.na_Moment_bottom, (by show 1 < 1000; decide), ?_⟩
        have z := kQ h0
        rw [num_eq h0, den_eq h0, momF_new, upd_upd]
        exact z
end
end AT
namespace AT
open PySem PySem.Spec PyProof.Rows L2
theorem map_at {α β : Type} {f : α → β} {l : List α} {i : Nat} {y : β} (h : (l.map f)[i]? = some y) : ∃ x, l[i]? = some x ∧ y = f x := by
  rw [List.getElem?_map] at h
  cases e : l[i]? with
  | none => rw [e] at h; cases h
  | some x => rw [e] at h; exact ⟨x, rfl, (Option.some.inj h).symm⟩
theorem at_map {α β : Type} {f : α → β} {l : List α} {i : Nat} {x : α} (h : l[i]? = some x) : (l.map f)[i]? = some (f x) := by
  rw [List.getElem?_map, h]
  rfl
section
variable {P : Program} {w : World} {K : PySem.W.Frag} {mg : Str → Option Value} {base : Heap}
/-- a cell of the script: some int -/
def spCell (K : PySem.W.Frag) : Sp := fun vs H Q _ => ∃ (a : Addr) (ns : List Int) (k : Int), vs = [.ref a, .int k] ∧ SqL K H a (ns.map V.int) ∧ 0 ≤ k ∧ ∀ c : Int, Q (.int c) H
theorem c_cell {a : Addr} {ns : List Int} {k : Int} {H : Hp} {Q : VK} {E : XK} (l : SqL K H a (ns.map V.int)) (hk : 0 ≤ k) (h : ∀ c : Int, Q (.int c) H) : spCell K [.ref a, .int k] H Q E := ⟨a, ns, k, rfl, l, hk, h⟩
theorem ok__law_cell (T : Tx K mg) : FnOk P w K mg base CX0 1 T.a__law_cell T.d__law_cell ["_law_script", "_law_k"] (spCell K) := by
  refine T.F__law_cell.ok sc__law_cell (fun vs H Q E h => ?_) (fun cdv A outer s H vs Q E hr h => ?_)
  · obtain ⟨a, ns, k, rfl, _⟩ := h
    rfl
  · obtain ⟨a, ns, k, rfl, l, hk, q⟩ := h
    refine ⟨_, ((pss_cons (ps_if (pt_cmpR op_lt (pv 1) (pe_callB call_lenR (by rfl) T.n_len PySem.boot_len (pa_cons (pv 0) pa_nil)) (nomark _)) (pss_one (ps_ret (pe_ix ix_list (pv 0) (pv 1) (fun _ _ => rfl)))) pss_nil)
 (pss_one (ps_ret pe_int)))), ?_⟩
    walk_at "vc"
    refine w_len l ?_
    walk_at "vc"
    refine i_dec (fun hp => ?_) (fun hp => ?_)
    · walk_at "vc"
      rw [List.length_map] at hp
      obtain ⟨j, rfl⟩ : ∃ j : Nat, k = (j : Int) := ⟨k.toNat, by omega⟩
      have hj : j < ns.length := by omega
      exact w_ixL l (atI_nat (at_map (List.getElem?_eq_getElem hj))) (q _)
    · walk_at "vc"
      exact q 0
theorem mw {i j : Int} (hi : Bn 64 i) (hj : Bn 8000 j) : CMulW i j := wide_mul (a := 64) (b := 8000) hi hj (by decide) (by decide) (by decide)
end
end AT
namespace AT
open PySem PySem.Spec PyProof.Rows L2
section
variable {P : Program} {w : World} {K : PySem.W.Frag} {mg : Str → Option Value} {base : Heap}
/-- numbers below their sizes -/
def RowOk (ss ns : List Int) : Prop := ns.length = ss.length ∧ ∀ (i : Nat) s, ss[i]? = some s → ∃ n, ns[i]? = some n ∧ 0 ≤ n ∧ n < s
theorem RowOk.nil : RowOk [] [] := ⟨rfl, fun i s h => by simp at h⟩
theorem RowOk.more {ss ns : List Int} {i : Nat} {s n : Int} (h : RowOk (ss.take i) ns) (e : ss[i]? = some s) (h0 : 0 ≤ n) (h1 : n < s) : RowOk (ss.take (i + 1)) (ns ++ [n]) := by
  have hi : i < ss.length := (List.getElem?_eq_some_iff.mp e).1
  have hl : ns.length = i := by rw [h.1, List.length_take]; omega
  refine ⟨by rw [List.length_append, hl, List.length_take]; simp; omega, fun j s' hj => ?_⟩
  have hj' : j < i + 1 := by
    have := (List.getElem?_eq_some_iff.mp hj).1
    rw [List.length_take] at this
    omega
  rw [List.getElem?_take, if_pos hj'] at hj
  by_cases hji : j = i
  · subst hji
    rw [e] at hj
    cases hj
    refine ⟨n, ?_, h0, h1⟩
    rw [List.getElem?_append_right (by omega), hl]
    simp
  · obtain ⟨m, h2, h3, h4⟩ := h.2 j s' (by rw [List.getElem?_take, if_pos (by omega)]; exact hj)
    exact ⟨m, by rw [List.getElem?_append_left (by omega)]; exact h2, h3, h4⟩
theorem RowOk.one {s : Int} {ns : List Int} (h : RowOk [s] ns) : ∃ a, ns = [a] ∧ 0 ≤ a ∧ a < s := by
  obtain ⟨h1, h2⟩ := h
  obtain ⟨a, ea, pa⟩ := h2 0 s rfl
  match ns, h1 with
  | [x], _ =>
    cases ea
    exact ⟨_, rfl, pa⟩
theorem RowOk.cons {s : Int} {ss ns : List Int} (h : RowOk (s :: ss) ns) : ∃ a r, ns = a :: r ∧ 0 ≤ a ∧ a < s ∧ RowOk ss r := by
  obtain ⟨h1, h2⟩ := h
  obtain ⟨a, ea, pa⟩ := h2 0 s rfl
  match ns, h1 with
  | x :: r, h1 =>
    cases ea
    refine ⟨_, r, rfl, pa.1, pa.2, by simpa using h1, fun i s' e => ?_⟩
    obtain ⟨n, e1, e2⟩ := h2 (i + 1) s' (by simpa using e)
    exact ⟨n, by simpa using e1, e2⟩
def spRow (K : PySem.W.Frag) : Sp := fun vs H Q _ => ∃ (c : Int) (l : Addr) (ss : List Int), vs = [.int c, .ref l] ∧ SqL K H l (ss.map V.int) ∧ ss.length ≤ 63 ∧ (∀ s ∈ ss, 0 < s ∧ s < 1073741824) ∧
  ∀ p ns, H p = none → RowOk ss ns → Q (.ref p) (upd H p (.lst (ns.map V.int)))
theorem c_row {c : Int} {l : Addr} {ss : List Int} {H : Hp} {Q : VK} {E : XK} (hl : SqL K H l (ss.map V.int)) (hz : ss.length ≤ 63) (hs : ∀ s ∈ ss, 0 < s ∧ s < 1073741824)
    (h : ∀ p ns, H p = none → RowOk ss ns → Q (.ref p) (upd H p (.lst (ns.map V.int)))) : spRow K [.int c, .ref l] H Q E := ⟨c, l, ss, rfl, hl, hz, hs, h⟩
theorem pow5 {x : Int} (h : x.natAbs < 2 ^ 64) : CPow x 5 := ⟨by decide, by decide, h⟩
theorem ok__law_row (T : Tx K mg) : FnOk P w K mg base CX0 1 T.a__law_row T.d__law_row ["_law_cell_here", "_law_sizes"] (spRow K) := by
  refine T.F__law_row.ok sc__law_row (fun vs H Q E h => ?_) (fun cdv A outer s H vs Q E hr h => ?_)
  · obtain ⟨c, l, ss, rfl, _⟩ := h
    rfl
  · obtain ⟨c, l, ss, rfl, hl, hz, hs, q⟩ := h
    refine ⟨_, ((pss_cons (ps_set (i := 2) sc__law_row.nd rfl (Or.inl rfl) (pe_lst pa_nil))
 (pss_cons (ps_if (pt_cmpR op_ge (pv 0) (pe_op op_pow pe_int pe_int) (nomark _)) (pss_cons (ps_for PassesOwn.never rfl (pi_list (pv 1)) (pg_name (i := 3) sc__law_row.nd rfl (Or.inl rfl)) (pss_cons (ps_expr (pe_bm PySem.F.plainAttrs_list PySem.F.slot_list_append PySem.F.type_list_append mt_append (pv 2) (pa_cons (pe_op op_mod (pe_callTy call_intR (by rfl) T.n_int boot_int (pa_cons (pv 0) pa_nil)) (pv 3)) pa_nil)))
 (pss_one (ps_set (i := 0) sc__law_row.nd rfl (Or.inl rfl) (pe_op op_fdivG (pv 0) (pv 3))))))
 (pss_one (ps_ret (pv 2)))) pss_nil)
 (pss_cons (ps_set (i := 4) sc__law_row.nd rfl (Or.inl rfl) (pe_op op_mod (pe_callTy call_intR (by rfl) T.n_int boot_int (pa_cons (pv 0) pa_nil)) pe_int))
 (pss_cons (ps_for PassesOwn.never rfl (pi_range1 rfl T.n_range (pa_cons (pe_callB call_lenR (by rfl) T.n_len PySem.boot_len (pa_cons (pv 1) pa_nil)) pa_nil)) (pg_name (i := 5) sc__law_row.nd rfl (Or.inl rfl)) (pss_cons (ps_set (i := 6) sc__law_row.nd rfl (Or.inl rfl) (pe_op op_add (pe_op op_mod (pe_callTy call_intR (by rfl) T.n_int boot_int (pa_cons (pe_op op_pow (pe_op op_add (pe_op op_add (pv 4) (pe_op op_mulW pe_int (pv 5))) pe_int) pe_int) pa_nil)) pe_int) (pv 5)))
 (pss_one (ps_expr (pe_bm PySem.F.plainAttrs_list PySem.F.slot_list_append PySem.F.type_list_append mt_append (pv 2) (pa_cons (pe_op op_mod (pe_callTy call_intR (by rfl) T.n_int boot_int (pa_cons (pe_op op_mod (pe_callTy call_intR (by rfl) T.n_int boot_int (pa_cons (pe_op op_mulW (pv 6) pe_int) pa_nil)) pe_int) pa_nil)) (pe_ix ix_list (pv 1) (pv 5) (fun _ _ => rfl))) pa_nil))))))
 (pss_one (ps_ret (pv 2)))))))), ?_⟩
    walk_at "vc"
    refine ⟨by decide, fun p np => ?_⟩
    have hl1 : ∀ o, SqL K (upd H p o) l (ss.map V.int) := fun o => Same.seq (fun b u e => by rw [upd_ne (ne_of_none e np)]; exact e) hl
    walk_at "vc"
    refine i_dec (fun hp => ?_) (fun hp => ?_)
    · walk_at "vc"
      refine ⟨l, rfl, ⟨_, hl1 _⟩, for_list (K := K) (a := l) (xs := ss.map V.int) (fun i σ H' => ∃ (z : Int) (ns : List Int) (v4 v5 v6 v7 : Option V), σ = [some (.int z), some (.ref l), some (.ref p), v4, v5, v6, v7] ∧ H' = upd H p (.lst (ns.map V.int)) ∧ RowOk (ss.take i) ns)
        ⟨c, [], none, none, none, none, rfl, rfl, RowOk.nil⟩ (fun i σ H' _ h => by obtain ⟨_, _, _, _, _, _, _, rfl, _⟩ := h; exact hl1 _) ?_ ?_⟩
      · rintro i y σ H' hi ⟨z, ns, v4, v5, v6, v7, rfl, rfl, r⟩
        obtain ⟨sz, hsz, rfl⟩ := map_at hi
        have hpos := hs sz (List.mem_of_getElem? hsz)
        walk_at "vc"
        refine ⟨.inl ⟨rfl, _, SqL.of upd_same⟩, ?_⟩
        walk_at "vc"
        refine w_rI hpos.1 ?_
        walk_at "vc"
        have hln : ns.length ≤ 63 := by
          have := r.1
          rw [List.length_take] at this
          omega
        refine w_app upd_same (by rw [List.length_map]; omega) ?_
        walk_at "vc"
        refine w_rI ⟨by omega, by have : Bn 30 sz := by (unfold Bn; omega)
                                  exact this.log' (by decide)⟩ ?_
        walk_at "vc"
        exact ⟨_, ns ++ [z % sz], _, _, _, _, rfl, by rw [upd_upd, List.map_append]; rfl, r.more hsz (Int.emod_nonneg _ (by omega)) (Int.emod_lt_of_pos _ hpos.1)⟩
      · rintro σ H' ⟨z, ns, v4, v5, v6, v7, rfl, rfl, r⟩
        walk_at "vc"
        rw [List.length_map, List.take_length] at r
        exact q p ns np r
    · walk_at "vc"
      refine w_len (hl1 _) ?_
      walk_at "vc"
      have e1 : 0 ≤ c % 2147483647 := Int.emod_nonneg _ (by decide)
      have e2 : c % 2147483647 < 2147483647 := Int.emod_lt_of_pos _ (by decide)
      generalize c % 2147483647 = sd at e1 e2
      refine ⟨_, rfl, by omega, by rw [List.length_map]; omega, for_range (lo := 0) (n := ((ss.map V.int).length : Int).toNat) (fun i σ H' => ∃ (ns : List Int) (v4 v6 v7 : Option V), σ = [some (.int c), some (.ref l), some (.ref p), v4, some (.int sd), v6, v7] ∧ H' = upd H p (.lst (ns.map V.int)) ∧ RowOk (ss.take i) ns)
        ⟨[], none, none, none, rfl, rfl, RowOk.nil⟩ ?_ ?_⟩
      · rintro i σ H' hi ⟨ns, v4, v6, v7, rfl, rfl, r⟩
        have hi' : i < ss.length := by simpa using hi
        have hsz := List.getElem?_eq_getElem hi'
        generalize ss[i] = sz at hsz
        have hpos := hs sz (List.mem_of_getElem? hsz)
        walk_at "vc"
        refine w_rI (mw (by unfold Bn; omega) (Bn.mono (m := 64) (by unfold Bn; omega) (by decide))) ?_
        walk_at "vc"
        refine w_rI (pow5 (by omega)) ?_
        walk_at "vc"
        generalize (sd + 7919 * (0 + (i : Int)) + 104729) ^ (5 : Int).toNat = pw
        have f1 : 0 ≤ pw % 2147483647 := Int.emod_nonneg _ (by decide)
        have f2 : pw % 2147483647 < 2147483647 := Int.emod_lt_of_pos _ (by decide)
        generalize pw % 2147483647 = mx at f1 f2
        refine ⟨.inl ⟨rfl, _, SqL.of upd_same⟩, ?_⟩
        walk_at "vc"
        refine w_rI (mw (by unfold Bn; omega) (Bn.mono (m := 64) (by unfold Bn; omega) (by decide))) ?_
        walk_at "vc"
        refine w_ixL (hl1 _) (at_of (by omega) (at_map hsz)) ?_
        refine w_rI hpos.1 ?_
        walk_at "vc"
        have hln : ns.length ≤ 63 := by
          have := r.1
          rw [List.length_take] at this
          omega
        refine w_app upd_same (by rw [List.length_map]; omega) ?_
        walk_at "vc"
        exact ⟨ns ++ [_], _, _, _, rfl, by rw [upd_upd, List.map_append]; rfl, r.more hsz (Int.emod_nonneg _ (by omega)) (Int.emod_lt_of_pos _ hpos.1)⟩
      · rintro σ H' ⟨ns, v4, v6, v7, rfl, rfl, r⟩
        walk_at "vc"
        have e : ((ss.map V.int).length : Int).toNat = ss.length := by simp
        rw [e, List.take_length] at r
        exact q p ns np r
end
end AT
namespace AT
open PySem PySem.Spec PyProof.Rows L2
section
variable {P : Program} {w : World} {K : PySem.W.Frag} {mg : Str → Option Value} {base : Heap}
def spWhole : Sp := fun vs H Q _ => ∃ c m : Int, vs = [.int c, .int m] ∧ 0 ≤ m ∧ Bn 400 m ∧ ∀ r : Int, -m ≤ r → r ≤ m → Q (.int r) H
theorem c_whole {c m : Int} {H : Hp} {Q : VK} {E : XK} (h0 : 0 ≤ m) (hm : Bn 400 m) (h : ∀ r : Int, -m ≤ r → r ≤ m → Q (.int r) H) : spWhole [.int c, .int m] H Q E := ⟨c, m, rfl, h0, hm, h⟩
theorem ok__law_whole (T : Tx K mg) : FnOk P w K mg base CX0 1 T.a__law_whole T.d__law_whole ["_law_cell_here", "_law_most"] spWhole := by
  refine T.F__law_whole.ok sc__law_whole (fun vs H Q E h => ?_) (fun cdv A outer s H vs Q E hr h => ?_)
  · obtain ⟨c, m, rfl, _⟩ := h
    rfl
  · obtain ⟨c, m, rfl, h0, hm, q⟩ := h
    refine ⟨_, ((pss_cons (ps_if (pt_chain op_le op_le (pe_un un_neg (pv 1)) (pv 0) (pv 1)) (pss_one (ps_ret (pv 0))) pss_nil)
 (pss_one (ps_ret (pe_op op_sub (pe_op op_mod (pe_callTy call_intR (by rfl) T.n_int boot_int (pa_cons (pv 0) pa_nil)) (pe_op op_add (pe_op op_mulW pe_int (pv 1)) pe_int)) (pv 1)))))), ?_⟩
    walk_at "vc"
    have last : ¬ (-m ≤ c ∧ c ≤ m) → Q (.int (c % (2 * m + 1) - m)) H := fun _ => q _ (by have := Int.emod_nonneg c (by omega : 2 * m + 1 ≠ 0); omega) (by have := Int.emod_lt_of_pos c (by omega : 0 < 2 * m + 1); omega)
    refine i_dec (fun h1 => ?_) (fun h1 => ?_)
    · walk_at "vc"
      refine i_dec (fun h2 => ?_) (fun h2 => ?_)
      · walk_at "vc"
        exact q c h1 h2
      · walk_at "vc"
        refine w_rI (mw (by unfold Bn; omega) (hm.mono (by decide))) ?_
        walk_at "vc"
        refine w_rI (by omega) ?_
        walk_at "vc"
        exact last (by omega)
    · walk_at "vc"
      refine w_rI (mw (by unfold Bn; omega) (hm.mono (by decide))) ?_
      walk_at "vc"
      refine w_rI (by omega) ?_
      walk_at "vc"
      exact last (by omega)
def spRatio : Sp := fun vs H Q _ => ∃ a b m : Int, vs = [.int a, .int b, .int m] ∧ 1 ≤ m ∧ Bn 400 m ∧
  ∀ (t b : Int) p, H p = none → -m ≤ t → t ≤ m → -m ≤ b → b ≤ m → b ≠ 0 → Q (.ref p) (upd H p (.tup [.int t, .int b]))
theorem c_ratio {a b m : Int} {H : Hp} {Q : VK} {E : XK} (h0 : 1 ≤ m) (hm : Bn 400 m) (h : ∀ (t b : Int) p, H p = none → -m ≤ t → t ≤ m → -m ≤ b → b ≤ m → b ≠ 0 → Q (.ref p) (upd H p (.tup [.int t, .int b]))) : spRatio [.int a, .int b, .int m] H Q E := ⟨a, b, m, rfl, h0, hm, h⟩
theorem ok__law_ratio (T : Tx K mg) : FnOk P w K mg base CX0 2 T.a__law_ratio T.d__law_ratio ["_law_a", "_law_b", "_law_most"] spRatio := by
  refine T.F__law_ratio.ok sc__law_ratio (fun vs H Q E h => ?_) (fun cdv A outer s H vs Q E hr h => ?_)
  · obtain ⟨a, b, m, rfl, _⟩ := h
    rfl
  · obtain ⟨a, b, m, rfl, h0, hm, q⟩ := h
    have G__law_whole : FnOk P w K mg base CX0 1 T.a__law_whole T.d__law_whole ["_law_cell_here", "_law_most"] spWhole := ok__law_whole T
    have hr__law_whole : Room 1 _ := hr
    refine ⟨_, ((pss_cons (ps_set (i := 3) sc__law_ratio.nd rfl (Or.inl rfl) (pe_call G__law_whole hr__law_whole rfl T.g__law_whole T.F__law_whole.kp T.b__law_whole .nil pass0 (pa_cons (pv 1) (pa_cons (pv 2) pa_nil))))
 (pss_cons (ps_if (pt_cmpR op_eq (pv 3) pe_int (nomark _)) (pss_one (ps_set (i := 3) sc__law_ratio.nd rfl (Or.inl rfl) pe_int)) pss_nil)
 (pss_one (ps_ret (pe_tup (pa_cons (pe_call G__law_whole hr__law_whole rfl T.g__law_whole T.F__law_whole.kp T.b__law_whole .nil pass0 (pa_cons (pv 0) (pa_cons (pv 2) pa_nil))) (pa_cons (pv 3) pa_nil)))))))), ?_⟩
    walk_at "vc"
    refine c_whole (by omega) hm fun r2 l1 l2 => ?_
    walk_at "vc"
    refine i_dec (fun hz => ?_) (fun hz => ?_)
    · walk_at "vc"
      refine c_whole (by omega) hm fun r1 l3 l4 => ?_
      walk_at "vc"
      exact ⟨(by show 2 ≤ sizeLine; decide), fun p np => q _ _ p np l3 l4 (by omega) (by omega) (by decide)⟩
    · walk_at "vc"
      refine c_whole (by omega) hm fun r1 l3 l4 => ?_
      walk_at "vc"
      exact ⟨(by show 2 ≤ sizeLine; decide), fun p np => q _ _ p np l3 l4 l1 l2 hz⟩
end
end AT
namespace AT
open PySem PySem.Spec PyProof.Rows L2
section
variable {P : Program} {w : World} {K : PySem.W.Frag} {mg : Str → Option Value} {base : Heap}
/-- making a moment -/
theorem w_mom {C CE : Addr} {t b : Int} {dvs vs : List V} {H : Hp} {Q : VK} {E : XK} (e : vs ++ dvs = [.int t, .int b]) (ht : Bn 8000 t) (hb : Bn 8000 b) (h0 : b ≠ 0)
    (k : ∀ p H', Ext H H' → Mo C H' (.ref p) (Rat.divInt t b) → Q (.ref p) H') : rMakeS C (spMom C CE) dvs E vs H Q := by
  intro x dx nx ndx ne
  refine ⟨x, dx, t, b, by rw [e], upd_same, ht, hb, fun z => absurd z h0, fun _ => ⟨rfl, k x _ ?_ ⟨x, dx, rfl, upd_same⟩⟩⟩
  exact Ext.mut (Ext.mut (Ext.new ndx) nx) nx
/-- .. or the error -/
theorem w_momX {C CE : Addr} {t b : Int} {dvs vs : List V} {H : Hp} {Q : VK} {E : XK} (e : vs ++ dvs = [.int t, .int b]) (ht : Bn 8000 t) (hb : Bn 8000 b)
    (hE : b = 0 → ∀ d H', H d = none → Ext H H' → H' d = some (.xd [("bottom", .int b), ("top", .int t)]) → E (.ref CE) (some d) H')
    (k : b ≠ 0 → ∀ p H', Ext H H' → Mo C H' (.ref p) (Rat.divInt t b) → Q (.ref p) H') : rMakeS C (spMom C CE) dvs E vs H Q := by
  intro x dx nx ndx ne
  have e1 : ∀ o o', Ext H (upd (upd H dx o) x o') := fun o o' => Ext.mut (Ext.new ndx) nx
  refine ⟨x, dx, t, b, by rw [e], upd_same, ht, hb, fun z d H' nd x1 hd => hE z d H' ((e1 _ _).fresh nd) ((e1 _ _).t x1) hd, fun h0 => ⟨rfl, k h0 x _ ?_ ⟨x, dx, rfl, upd_same⟩⟩⟩
  exact Ext.mut (e1 _ _) nx
theorem mom_binds2 (T : Tx K mg) : ∃ ds, Vals [.int 1] ds ∧ Binds K T.d_Moment___init__ ["self", "top", "bottom"] ds :=
  T.F_Moment___init__.binds1 2 0 (by simp) (by decide) fun Td kV doc pm an cdv ct us its hu hi => match us, its, hu, hi with
    | [_, _], [_], _, _ => ⟨_, rfl, rfl⟩
theorem mom_binds3 (T : Tx K mg) : ∃ ds, Vals [] ds ∧ Binds K T.d_Moment___init__ ["self", "top", "bottom"] ds :=
  T.F_Moment___init__.binds1 3 1 (by simp) (by decide) fun Td kV doc pm an cdv ct us its hu hi => match us, its, hu, hi with
    | [_, _, _], [_], _, _ => ⟨_, rfl, rfl⟩
end
end AT
namespace AT
open PySem PySem.Spec PyProof.Rows L2
section
variable {P : Program} {w : World} {K : PySem.W.Frag} {mg : Str → Option Value} {base : Heap}
/-- an int or a moment that is worth r -/
def Opd (n : Nat) (C : Addr) (H : Hp) (y : V) (r : Rat) : Prop := (∃ i : Int, y = .int i ∧ r = (i : Rat) ∧ Bn n i) ∨ (Mo C H y r ∧ Sm n r)
theorem Opd.int {n : Nat} {C : Addr} {H : Hp} {i : Int} (b : Bn n i) : Opd n C H (.int i) (i : Rat) := .inl ⟨i, rfl, rfl, b⟩
theorem Opd.up {n : Nat} {C : Addr} {H H' : Hp} {y : V} {r : Rat} (h : Opd n C H y r) (e : Ext H H') : Opd n C H' y r := h.imp id fun h => ⟨h.1.up e, h.2⟩
theorem Opd.mono {m n : Nat} {C : Addr} {H : Hp} {y : V} {r : Rat} (h : Opd m C H y r) (l : m ≤ n) : Opd n C H y r := h.imp (fun ⟨i, a, b, c⟩ => ⟨i, a, b, c.mono l⟩) fun h => ⟨h.1, h.2.mono l⟩
/-- v op y -/
def spBin (f : Rat → Rat → Rat) (C : Addr) : Sp := fun vs H Q _ => ∃ (v y : V) (q r : Rat), vs = [v, y] ∧ Mo C H v q ∧ Sm 3900 q ∧ Opd 3900 C H y r ∧ ∀ p H', Ext H H' → Mo C H' (.ref p) (f q r) → Q (.ref p) H'
/-- i op v, by v's method -/
def spRBin (f : Rat → Rat → Rat) (C : Addr) : Sp := fun vs H Q _ => ∃ (v : V) (i : Int) (q : Rat), vs = [v, .int i] ∧ Mo C H v q ∧ Sm 3900 q ∧ Bn 3900 i ∧ ∀ p H', Ext H H' → Mo C H' (.ref p) (f q (i : Rat)) → Q (.ref p) H'
theorem w_bin {f : Rat → Rat → Rat} {C : Addr} {v y : V} {q r : Rat} {H : Hp} {Q : VK} {E : XK} (m : Mo C H v q) (s : Sm 3900 q) (o : Opd 3900 C H y r) (k : ∀ p H', Ext H H' → Mo C H' (.ref p) (f q r) → Q (.ref p) H') : rIns C (spBin f C) E v y H Q := by
  obtain ⟨a, dx, rfl, z⟩ := id m
  refine ⟨a, dx, _, rfl, z, ?_, _, _, q, r, rfl, m, s, o, k⟩
  rcases o with ⟨i, rfl, _⟩ | ⟨⟨b, dy, rfl, z2⟩, _⟩
  · exact .inl ⟨i, rfl⟩
  · exact .inr ⟨b, dy, _, rfl, z2⟩
theorem w_rbin {f : Rat → Rat → Rat} {C : Addr} {v : V} {i : Int} {q : Rat} {H : Hp} {Q : VK} {E : XK} (m : Mo C H v q) (s : Sm 3900 q) (b : Bn 3900 i) (k : ∀ p H', Ext H H' → Mo C H' (.ref p) (f q (i : Rat)) → Q (.ref p) H') : rIntIns C (spRBin f C) E (.int i) v H Q := by
  obtain ⟨a, dx, rfl, z⟩ := id m
  exact ⟨i, a, dx, _, rfl, rfl, z, _, i, q, rfl, m, s, b, k⟩
theorem bn_mul {i j : Int} (h : Bn 3900 i) (l : Bn 3900 j) : Bn 7800 (i * j) := (h.mul l).mono (by decide)
theorem bn_addM {i j k l : Int} (h : Bn 3900 i) (h2 : Bn 3900 j) (h3 : Bn 3900 k) (h4 : Bn 3900 l) : Bn 8000 (i * j + k * l) := ((bn_mul h h2).add (bn_mul h3 h4)).mono (by decide)
theorem bn_subM {i j k l : Int} (h : Bn 3900 i) (h2 : Bn 3900 j) (h3 : Bn 3900 k) (h4 : Bn 3900 l) : Bn 8000 (i * j - k * l) := ((bn_mul h h2).sub (bn_mul h3 h4)).mono (by decide)
theorem bn_add1 {i k l : Int} (h : Bn 3900 i) (h3 : Bn 3900 k) (h4 : Bn 3900 l) : Bn 8000 (i + k * l) := ((h.mono (by decide)).add (bn_mul h3 h4)).mono (by decide)
theorem bn_sub1 {i k l : Int} (h : Bn 3900 i) (h3 : Bn 3900 k) (h4 : Bn 3900 l) : Bn 8000 (i - k * l) := ((h.mono (by decide)).sub (bn_mul h3 h4)).mono (by decide)
theorem bn_sub2 {i k l : Int} (h : Bn 3900 i) (h3 : Bn 3900 k) (h4 : Bn 3900 l) : Bn 8000 (k * l - i) := ((bn_mul h3 h4).sub (h.mono (by decide))).mono (by decide)
theorem bn_up {i : Int} (h : Bn 3900 i) : Bn 8000 i := h.mono (by decide)
theorem bn_mulU {i j : Int} (h : Bn 3900 i) (l : Bn 3900 j) : Bn 8000 (i * j) := (bn_mul h l).mono (by decide)
theorem w_m39 {H : Hp} {Q : VK} {i j : Int} (h1 : Bn 3900 i) (h2 : Bn 3900 j) (k : Q (.int (i * j)) H) : rI CMulW (fun i j => .int (i * j)) (.int i) (.int j) H Q := w_mulW (m := 3900) (n := 3900) h1 h2 (by decide) (by decide) (by decide) k
end
end AT
namespace AT
open PySem PySem.Spec PyProof.Rows L2
section
variable {P : Program} {w : World} {K : PySem.W.Frag} {mg : Str → Option Value} {base : Heap}
/-- a moment's attributes -/
theorem w_top {T : Tx K mg} {H : Hp} {Q : VK} {v : V} {q : Rat} (h : Mo T.C_Moment H v q) (k : Q (.int q.num) H) : rFld K "top" v H Q := by
  obtain ⟨a, dx, rfl, z⟩ := h
  exact ⟨a, _, dx, _, _, rfl, z, T.o_Moment.cl, T.na_Moment_top, momF_top q, k⟩
theorem w_bottom {T : Tx K mg} {H : Hp} {Q : VK} {v : V} {q : Rat} (h : Mo T.C_Moment H v q) (k : Q (.int (q.den : Int)) H) : rFld K "bottom" v H Q := by
  obtain ⟨a, dx, rfl, z⟩ := h
  exact ⟨a, _, dx, _, _, rfl, z, T.o_Moment.cl, T.na_Moment_bottom, momF_bottom q, k⟩
theorem Mo.ty {T : Tx K mg} {H : Hp} {v : V} {q : Rat} (h : Mo T.C_Moment H v q) : TyX K H v (.ref T.C_Moment) := by
  obtain ⟨a, dx, rfl, z⟩ := h
  exact T.o_Moment.ty z
theorem w_moMo {T : Tx K mg} {H : Hp} {Q : VK} {v : V} {q : Rat} (h : Mo T.C_Moment H v q) (k : Q (.bl true) H) : rIsi K [v, .ref T.C_Moment] H Q := w_isi (.own _) h.ty kit_self k
theorem w_moInt {T : Tx K mg} {H : Hp} {Q : VK} {v : V} {q : Rat} (h : Mo T.C_Moment H v q) (k : Q (.bl false) H) : rIsi K [v, .ty "int"] H Q := w_isi (.ty "int") h.ty (kit_insTy T.o_Moment.notInt (by decide +kernel)) k
theorem w_tyMo {T : Tx K mg} {H : Hp} {Q : VK} {v : V} {t : String} (h : TyX K H v (.type t)) (hs : PySem.W.subIn K (.type t) (.ref T.C_Moment) = some false) (k : Q (.bl false) H) : rIsi K [v, .ref T.C_Moment] H Q :=
  w_isi (.own _) h (kit_own T.k1_Moment T.k2_Moment hs (by simp)) k
end
end AT
namespace AT
open PySem PySem.Spec PyProof.Rows L2
section
variable {P : Program} {w : World} {K : PySem.W.Frag} {mg : Str → Option Value} {base : Heap}
theorem gcd_turn2 {a b a0 b0 : Int} (hb : 0 < b) (ha : 0 ≤ a) (g : Int.gcd a b = Int.gcd a0 b0) (z : Bn 8000 b) : 0 ≤ b ∧ 0 ≤ a - a.fdiv b * b ∧ Int.gcd b (a - a.fdiv b * b) = Int.gcd a0 b0 ∧ Bn 8000 b ∧ Bn 8000 (a - a.fdiv b * b) ∧ (a - a.fdiv b * b).toNat < b.toNat := by
  rw [Int.mul_comm (a.fdiv b) b]
  exact gcd_turn hb ha g z
theorem ok__law_gcd (T : Tx K mg) : FnOk P w K mg base CX0 1 T.a__law_gcd T.d__law_gcd ["_law_a", "_law_b"] spGcd := by
  refine T.F__law_gcd.ok sc__law_gcd (fun vs H Q E h => ?_) (fun cdv A outer s H vs Q E hr h => ?_)
  · obtain ⟨a, b, rfl, _⟩ := h
    rfl
  · obtain ⟨a, b, rfl, ha, hb, k⟩ := h
    refine ⟨_, ((pss_cons (ps_set (i := 0) sc__law_gcd.nd rfl (Or.inl rfl) (pe_callB call_absR (by rfl) T.n_abs boot_abs (pa_cons (pv 0) pa_nil)))
 (pss_cons (ps_set (i := 1) sc__law_gcd.nd rfl (Or.inl rfl) (pe_callB call_absR (by rfl) T.n_abs boot_abs (pa_cons (pv 1) pa_nil)))
 (pss_cons (ps_while PassesOwn.never (pt_cmpR op_gt (pv 1) pe_int (nomark _)) (pss_cons (ps_set (i := 2) sc__law_gcd.nd rfl (Or.inl rfl) (pe_op op_sub (pv 0) (pe_op op_mulW (pe_op op_fdivG (pv 0) (pv 1)) (pv 1))))
 (pss_cons (ps_set (i := 0) sc__law_gcd.nd rfl (Or.inl rfl) (pv 1))
 (pss_one (ps_set (i := 1) sc__law_gcd.nd rfl (Or.inl rfl) (pv 2))))))
 (pss_one (ps_ret (pv 0))))))), ?_⟩
    walk_at "vc"
    refine w_while (fun σ H' => H' = H ∧ ∃ (x y : Int) (v : Option V), σ = [some (.int x), some (.int y), v] ∧ 0 ≤ x ∧ 0 ≤ y ∧ Int.gcd x y = Int.gcd a b ∧ Bn 8000 x ∧ Bn 8000 y) (fun σ _ => match σ with | [_, some (.int y), _] => y.toNat | _ => 0)
      ⟨rfl, _, _, _, rfl, by omega, by omega, rfl, ha.abs, hb.abs⟩ ?_
    rintro σ H' ⟨rfl, x, y, v, rfl, hx, hy, g, bx, bY⟩
    walk_at "vc"
    refine i_dec (fun hp => ?_) (fun hp => ?_)
    · refine w_wturn ?_
      walk_at "vc"
      refine w_rI ⟨by omega, bY.log' (by decide)⟩ ?_
      obtain ⟨t1, t2, t3, t4, t5, t6⟩ := gcd_turn2 hp hx g bY
      walk_at "vc"
      refine w_rI (wide_mul (a := 8000) (b := 8000) (bx.le (fdiv_abs hp hx)) bY (by decide) (by decide) (by decide)) ?_
      walk_at "vc"
      exact ⟨t6, rfl, _, _, _, rfl, t1, t2, t3, t4, t5⟩
    · walk_at "vc"
      rw [gcd_out hp hy hx g]
      exact k
def spIsInt : Sp := fun vs H Q _ => ∃ a : Int, vs = [.int a] ∧ Q (.bl true) H
theorem c_isInt {a : Int} {H : Hp} {Q : VK} {E : XK} (h : Q (.bl true) H) : spIsInt [.int a] H Q E := ⟨a, rfl, h⟩
theorem ok__law_is_int (T : Tx K mg) : FnOk P w K mg base CX0 1 T.a__law_is_int T.d__law_is_int ["_law_actual"] spIsInt := by
  refine T.F__law_is_int.ok sc__law_is_int (fun vs H Q E h => ?_) (fun cdv A outer s H vs Q E hr h => ?_)
  · obtain ⟨a, rfl, _⟩ := h
    rfl
  · obtain ⟨a, rfl, q⟩ := h
    refine ⟨_, ((pss_one (ps_ret (pe_and (pe_callB call_isi (by rfl) T.n_isinstance boot_isinstance (pa_cons (pv 0) (pa_cons (pe_bltn (v := .ty "int") rfl T.n_int boot_int rfl) pa_nil))) (pe_one (pe_not (pe_callB call_isi (by rfl) T.n_isinstance boot_isinstance (pa_cons (pv 0) (pa_cons (pe_bltn (v := .ty "bool") rfl T.n_bool boot_bool rfl) pa_nil))))))))), ?_⟩
    walk_at "vc"
    exact q
def spHolds (C : Addr) : Sp := fun vs H Q _ => ∃ (v : V) (q : Rat) (t b : Int), vs = [v, .int t, .int b] ∧ Mo C H v q ∧ Sm 8000 q ∧ Bn 8000 t ∧ Bn 8000 b ∧ q.num * b = t * (q.den : Int) ∧ Q (.bl true) H
theorem c_holds {C : Addr} {v : V} {q : Rat} {t b : Int} {H : Hp} {Q : VK} {E : XK} (m : Mo C H v q) (sq : Sm 8000 q) (ht : Bn 8000 t) (hb : Bn 8000 b) (e : q.num * b = t * (q.den : Int)) (h : Q (.bl true) H) : spHolds C [v, .int t, .int b] H Q E := ⟨v, q, t, b, rfl, m, sq, ht, hb, e, h⟩
theorem ok__law_holds (T : Tx K mg) : FnOk P w K mg base CX0 2 T.a__law_holds T.d__law_holds ["_law_actual", "_law_top", "_law_bottom"] (spHolds T.C_Moment) := by
  refine T.F__law_holds.ok sc__law_holds (fun vs H Q E h => ?_) (fun cdv A outer s H vs Q E hr h => ?_)
  · obtain ⟨v, q, t, b, rfl, _⟩ := h
    rfl
  · obtain ⟨v, q, t, b, rfl, m, sq, ht, hb, e, k⟩ := h
    have G__law_gcd : FnOk P w K mg base CX0 1 T.a__law_gcd T.d__law_gcd ["_law_a", "_law_b"] spGcd := ok__law_gcd T
    have G__law_is_int : FnOk P w K mg base CX0 1 T.a__law_is_int T.d__law_is_int ["_law_actual"] spIsInt := ok__law_is_int T
    have hr__law_gcd : Room 1 _ := hr
    have hr__law_is_int : Room 1 _ := hr
    refine ⟨_, ((pss_cons (ps_if (PW.pt (pw_or (pt_not (pt_val (pe_callB call_isi (by rfl) T.n_isinstance boot_isinstance (pa_cons (pv 0) (pa_cons (pe_glob (v := .ref T.C_Moment) rfl T.g_Moment rfl) pa_nil))))) (pw_or (pt_not (pt_val (pe_call G__law_is_int hr__law_is_int rfl T.g__law_is_int T.F__law_is_int.kp T.b__law_is_int .nil pass0 (pa_cons (pe_fld (pv 0) rfl) pa_nil)))) (pw_or1 (pt_not (pt_val (pe_call G__law_is_int hr__law_is_int rfl T.g__law_is_int T.F__law_is_int.kp T.b__law_is_int .nil pass0 (pa_cons (pe_fld (pv 0) rfl) pa_nil)))))))) (pss_one (ps_ret pe_bl)) pss_nil)
 (pss_cons (ps_if (PW.pt (pw_or (pt_cmpR op_lt (pe_fld (pv 0) rfl) pe_int (nomark _)) (pw_or1 (pt_cmpR op_ne (pe_call G__law_gcd hr__law_gcd rfl T.g__law_gcd T.F__law_gcd.kp T.b__law_gcd .nil pass0 (pa_cons (pe_fld (pv 0) rfl) (pa_cons (pe_fld (pv 0) rfl) pa_nil))) pe_int (nomark _))))) (pss_one (ps_ret pe_bl)) pss_nil)
 (pss_one (ps_ret (pe_cmpR op_eq (pe_op op_mulW (pe_fld (pv 0) rfl) (pv 2)) (pe_op op_mulW (pv 1) (pe_fld (pv 0) rfl)) (nomark _))))))), ?_⟩
    walk_at "vc"
    refine w_moMo m ?_
    walk_at "vc"
    refine w_top m ?_
    walk_at "vc"
    refine c_isInt ?_
    walk_at "vc"
    refine w_bottom m ?_
    walk_at "vc"
    refine c_isInt ?_
    walk_at "vc"
    refine w_bottom m ?_
    walk_at "vc"
    have dp := den_pos q
    refine i_dec (fun z => absurd z (by omega)) (fun _ => ?_)
    walk_at "vc"
    refine w_top m ?_
    walk_at "vc"
    refine w_bottom m ?_
    walk_at "vc"
    refine c_gcd sq.num sq.den ?_
    rw [gcd_low]
    walk_at "vc"
    refine w_top m ?_
    walk_at "vc"
    refine w_rI (wide_mul (a := 8000) (b := 8000) sq.num hb (by decide) (by decide) (by decide)) ?_
    walk_at "vc"
    refine w_bottom m ?_
    walk_at "vc"
    refine w_rI (wide_mul (a := 8000) (b := 8000) ht sq.den (by decide) (by decide) (by decide)) ?_
    walk_at "vc"
    rw [decide_eq_true e]
    exact k
end
end AT
namespace AT
open PySem PySem.Spec PyProof.Rows L2
section
variable {P : Program} {w : World} {K : PySem.W.Frag} {mg : Str → Option Value} {base : Heap}
def spLaw (K : PySem.W.Frag) : Sp := fun vs H Q _ => ∃ (a : Addr) (ns : List Int), vs = [.ref a] ∧ SqL K H a (ns.map V.int) ∧ ns.length ≤ 63 ∧ ∀ H', Q (.bl true) H'
theorem Mo.of {C : Addr} {H : Hp} {v : V} {q r : Rat} (h : Mo C H v q) (e : q = r) : Mo C H v r := e ▸ h
theorem c_holdsD {C : Addr} {v : V} {q : Rat} {t b : Int} {H : Hp} {Q : VK} {E : XK} (m : Mo C H v q) (e : q = Rat.divInt t b) (h0 : b ≠ 0) (ht : Bn 8000 t) (hb : Bn 8000 b) (h : Q (.bl true) H) : spHolds C [v, .int t, .int b] H Q E := by
  subst e
  exact c_holds m (sm_div h0 ht hb) ht hb (cross h0) h
theorem dA {t b t' b' : Int} (h : b ≠ 0) (h' : b' ≠ 0) : Rat.divInt t b + Rat.divInt t' b' = Rat.divInt (t * b' + t' * b) (b * b') := Rat.divInt_add_divInt _ _ h h'
theorem dB {t b t' b' : Int} (h : b ≠ 0) (h' : b' ≠ 0) : Rat.divInt t b - Rat.divInt t' b' = Rat.divInt (t * b' - t' * b) (b * b') := Rat.divInt_sub_divInt _ _ h h'
theorem dC {t b t' b' : Int} : Rat.divInt t b * Rat.divInt t' b' = Rat.divInt (t * t') (b * b') := Rat.divInt_mul_divInt _ _
theorem dI (k : Int) : ((k : Int) : Rat) = Rat.divInt k 1 := divInt_one.symm
theorem dAk {t b k : Int} (h : b ≠ 0) : Rat.divInt t b + (k : Rat) = Rat.divInt (t + k * b) b := by rw [dI k, dA h (by decide)]; simp
theorem dBk {t b k : Int} (h : b ≠ 0) : Rat.divInt t b - (k : Rat) = Rat.divInt (t - k * b) b := by rw [dI k, dB h (by decide)]; simp
theorem dBr {t b k : Int} (h : b ≠ 0) : (k : Rat) - Rat.divInt t b = Rat.divInt (k * b - t) b := by rw [dI k, dB (by decide) h]; simp
theorem dCk {t b k : Int} : Rat.divInt t b * (k : Rat) = Rat.divInt (t * k) b := by rw [dI k, dC]; simp
theorem b1 {i j : Int} (h : Bn 100 i) (l : Bn 100 j) : Bn 3000 (i * j) := (h.mul l).mono (by decide)
theorem b2 {i j k l : Int} (h : Bn 100 i) (h2 : Bn 100 j) (h3 : Bn 100 k) (h4 : Bn 100 l) : Bn 3000 (i * j + k * l) := ((h.mul h2).add (h3.mul h4)).mono (by decide)
theorem b3 {i j k l : Int} (h : Bn 100 i) (h2 : Bn 100 j) (h3 : Bn 100 k) (h4 : Bn 100 l) : Bn 3000 (i * j - k * l) := ((h.mul h2).sub (h3.mul h4)).mono (by decide)
theorem b4 {i k l : Int} (h : Bn 100 i) (h3 : Bn 100 k) (h4 : Bn 100 l) : Bn 3000 (i + k * l) := ((h.mono (by decide)).add (h3.mul h4)).mono (by decide)
theorem b5 {i k l : Int} (h : Bn 100 i) (h3 : Bn 100 k) (h4 : Bn 100 l) : Bn 3000 (i - k * l) := ((h.mono (by decide)).sub (h3.mul h4)).mono (by decide)
theorem b6 {i k l : Int} (h : Bn 100 i) (h3 : Bn 100 k) (h4 : Bn 100 l) : Bn 3000 (k * l - i) := ((h3.mul h4).sub (h.mono (by decide))).mono (by decide)
theorem u3 {n : Nat} {i : Int} (h : Bn n i) (l : n ≤ 3900 := by decide) : Bn 3900 i := h.mono l
theorem u8 {n : Nat} {i : Int} (h : Bn n i) (l : n ≤ 8000 := by decide) : Bn 8000 i := h.mono l
theorem sm3 {n : Nat} {t b : Int} (hb : b ≠ 0) (ht : Bn n t) (hb' : Bn n b) (l : n ≤ 3900 := by decide) : Sm 3900 (Rat.divInt t b) := sm_div hb (u3 ht l) (u3 hb' l)
end
end AT
namespace AT
open PySem PySem.Spec PyProof.Rows L2
section
variable {P : Program} {w : World} {K : PySem.W.Frag} {mg : Str → Option Value} {base : Heap}
theorem ok_Moment___mul__ (T : Tx K mg) : FnOk P w K mg base CX0 5 T.a_Moment___mul__ T.d_Moment___mul__ ["self", "other"] (spBin (fun q r => q * r) T.C_Moment) := by
  refine T.F_Moment___mul__.ok sc_Moment___mul__ (fun vs H Q E h => ?_) (fun cdv A outer s H vs Q E hr h => ?_)
  · obtain ⟨v, y, q, r, rfl, _⟩ := h
    rfl
  · obtain ⟨v, y, q, r, rfl, m, sq, ho, k⟩ := h
    have G_Moment___init__ : FnOk P w K mg base (L2.CX P w) 3 T.a_Moment___init__ T.d_Moment___init__ ["self", "top", "bottom"] (spMom T.C_Moment T.C_NoMoment) := ok_Moment___init__ T
    obtain ⟨ds3, V3_Moment___init__, B3_Moment___init__⟩ := mom_binds3 T
    have hr_Moment___init__ : Room 4 _ := hr
    refine ⟨_, ((pss_cons (ps_if (pt_val (pe_callB call_isi (by rfl) T.n_isinstance boot_isinstance (pa_cons (pv 1) (pa_cons (pe_bltn (v := .ty "int") rfl T.n_int boot_int rfl) pa_nil)))) (pss_one (ps_ret (pe_makeR T.M_Moment G_Moment___init__ hr_Moment___init__ rfl T.g_Moment B3_Moment___init__ V3_Moment___init__ passL (pa_cons (pe_op op_mulW (pe_fld (pv 0) rfl) (pv 1)) (pa_cons (pe_fld (pv 0) rfl) pa_nil))))) pss_nil)
 (pss_cons (ps_if (pt_val (pe_callB call_isi (by rfl) T.n_isinstance boot_isinstance (pa_cons (pv 1) (pa_cons (pe_glob (v := .ref T.C_Moment) rfl T.g_Moment rfl) pa_nil)))) (pss_one (ps_ret (pe_makeR T.M_Moment G_Moment___init__ hr_Moment___init__ rfl T.g_Moment B3_Moment___init__ V3_Moment___init__ passL (pa_cons (pe_op op_mulW (pe_fld (pv 0) rfl) (pe_fld (pv 1) rfl)) (pa_cons (pe_op op_mulW (pe_fld (pv 0) rfl) (pe_fld (pv 1) rfl)) pa_nil))))) pss_nil)
 (pss_one ps_never)))), ?_⟩
    rcases ho with ⟨i, rfl, rfl, bi⟩ | ⟨m2, s2⟩
    · walk_at "vc"
      refine w_top m ?_
      walk_at "vc"
      refine w_m39 sq.num bi ?_
      walk_at "vc"
      refine w_bottom m ?_
      walk_at "vc"
      refine w_mom rfl (bn_mulU sq.num bi) (bn_up sq.den) (dne q) fun p H1 e m1 => ?_
      rw [mulI_eq] at m1
      exact k p H1 e m1
    · walk_at "vc"
      refine w_moInt m2 ?_
      walk_at "vc"
      refine w_moMo m2 ?_
      walk_at "vc"
      refine w_top m ?_
      walk_at "vc"
      refine w_top m2 ?_
      walk_at "vc"
      refine w_m39 sq.num s2.num ?_
      walk_at "vc"
      refine w_bottom m ?_
      walk_at "vc"
      refine w_bottom m2 ?_
      walk_at "vc"
      refine w_m39 sq.den s2.den ?_
      walk_at "vc"
      refine w_mom rfl (bn_mulU sq.num s2.num) (bn_mulU sq.den s2.den) (Int.mul_ne_zero (dne q) (dne r)) fun p H1 e m1 => ?_
      rw [mul_eq] at m1
      exact k p H1 e m1
end
end AT
namespace AT
open PySem PySem.Spec PyProof.Rows L2
section
variable {P : Program} {w : World} {K : PySem.W.Frag} {mg : Str → Option Value} {base : Heap}
/-- a moment's own moment -/
def spUni (f : Rat → Rat) (C : Addr) : Sp := fun vs H Q _ => ∃ (v : V) (q : Rat), vs = [v] ∧ Mo C H v q ∧ Sm 3900 q ∧ ∀ p H', Ext H H' → Mo C H' (.ref p) (f q) → Q (.ref p) H'
def spTru (C : Addr) : Sp := fun vs H Q _ => ∃ (v : V) (q : Rat), vs = [v] ∧ Mo C H v q ∧ Sm 3900 q ∧ Q (.bl (!decide (q.num = 0))) H
def fAbs (q : Rat) : Rat := Rat.divInt (q.num.natAbs : Int) q.den
def rBool1 : List V → Hp → VK → Prop := fun xs H Q => (∃ i, xs = [.int i] ∧ Q (.bl (i != 0)) H) ∨ ∃ k, xs = [.bl k] ∧ Q (.bl k) H
theorem call_boolR {X : Cx} : CallR X (.type "bool") rBool1 := call_bool1
theorem w_bool1 {k : Bool} {H : Hp} {Q : VK} (h : Q (.bl k) H) : rBool1 [.bl k] H Q := .inr ⟨k, rfl, h⟩
theorem ok_Moment___neg__ (T : Tx K mg) : FnOk P w K mg base CX0 5 T.a_Moment___neg__ T.d_Moment___neg__ ["self"] (spUni (fun q => -q) T.C_Moment) := by
  refine T.F_Moment___neg__.ok sc_Moment___neg__ (fun vs H Q E h => ?_) (fun cdv A outer s H vs Q E hr h => ?_)
  · obtain ⟨v, q, rfl, _⟩ := h
    rfl
  · obtain ⟨v, q, rfl, m, sq, k⟩ := h
    have G_Moment___init__ : FnOk P w K mg base (L2.CX P w) 3 T.a_Moment___init__ T.d_Moment___init__ ["self", "top", "bottom"] (spMom T.C_Moment T.C_NoMoment) := ok_Moment___init__ T
    obtain ⟨ds3, V3_Moment___init__, B3_Moment___init__⟩ := mom_binds3 T
    have hr_Moment___init__ : Room 4 _ := hr
    refine ⟨_, ((pss_one (ps_ret (pe_makeR T.M_Moment G_Moment___init__ hr_Moment___init__ rfl T.g_Moment B3_Moment___init__ V3_Moment___init__ passL (pa_cons (pe_un un_neg (pe_fld (pv 0) rfl)) (pa_cons (pe_fld (pv 0) rfl) pa_nil)))))), ?_⟩
    walk_at "vc"
    refine w_top m ?_
    walk_at "vc"
    refine w_bottom m ?_
    walk_at "vc"
    refine w_mom rfl (bn_up sq.num.neg) (bn_up sq.den) (dne q) fun p H1 e m1 => ?_
    rw [neg_eq] at m1
    exact k p H1 e m1
theorem ok_Moment___abs__ (T : Tx K mg) : FnOk P w K mg base CX0 5 T.a_Moment___abs__ T.d_Moment___abs__ ["self"] (spUni fAbs T.C_Moment) := by
  refine T.F_Moment___abs__.ok sc_Moment___abs__ (fun vs H Q E h => ?_) (fun cdv A outer s H vs Q E hr h => ?_)
  · obtain ⟨v, q, rfl, _⟩ := h
    rfl
  · obtain ⟨v, q, rfl, m, sq, k⟩ := h
    have G_Moment___init__ : FnOk P w K mg base (L2.CX P w) 3 T.a_Moment___init__ T.d_Moment___init__ ["self", "top", "bottom"] (spMom T.C_Moment T.C_NoMoment) := ok_Moment___init__ T
    obtain ⟨ds3, V3_Moment___init__, B3_Moment___init__⟩ := mom_binds3 T
    have hr_Moment___init__ : Room 4 _ := hr
    refine ⟨_, ((pss_one (ps_ret (pe_makeR T.M_Moment G_Moment___init__ hr_Moment___init__ rfl T.g_Moment B3_Moment___init__ V3_Moment___init__ passL (pa_cons (pe_callB call_absR (by rfl) T.n_abs boot_abs (pa_cons (pe_fld (pv 0) rfl) pa_nil)) (pa_cons (pe_fld (pv 0) rfl) pa_nil)))))), ?_⟩
    walk_at "vc"
    refine w_top m ?_
    walk_at "vc"
    refine w_bottom m ?_
    walk_at "vc"
    refine w_mom rfl (bn_up sq.num.abs) (bn_up sq.den) (dne q) fun p H1 e m1 => ?_
    exact k p H1 e m1
theorem ok_Moment___bool__ (T : Tx K mg) : FnOk P w K mg base CX0 1 T.a_Moment___bool__ T.d_Moment___bool__ ["self"] (spTru T.C_Moment) := by
  refine T.F_Moment___bool__.ok sc_Moment___bool__ (fun vs H Q E h => ?_) (fun cdv A outer s H vs Q E hr h => ?_)
  · obtain ⟨v, q, rfl, _⟩ := h
    rfl
  · obtain ⟨v, q, rfl, m, sq, k⟩ := h
    refine ⟨_, ((pss_one (ps_ret (pe_callTy call_boolR (by rfl) T.n_bool boot_bool (pa_cons (pe_cmpR op_ne (pe_fld (pv 0) rfl) pe_int (nomark _)) pa_nil))))), ?_⟩
    walk_at "vc"
    refine w_top m ?_
    walk_at "vc"
    refine w_bool1 ?_
    walk_at "vc"
    exact k
end
end AT
namespace AT
open PySem PySem.Spec PyProof.Rows L2
section
variable {P : Program} {w : World} {K : PySem.W.Frag} {mg : Str → Option Value} {base : Heap}
/-- v ** n -/
def spPow (C : Addr) : Sp := fun vs H Q _ => ∃ (v : V) (i : Int) (n m : Nat) (t b : Int), vs = [v, .int i] ∧ i = (n : Int) ∧ Mo C H v (Rat.divInt t b) ∧ b ≠ 0 ∧ Bn m t ∧ Bn m b ∧ m ≤ 3900 ∧ m * n + 1 ≤ 3900 ∧ n ≤ 1000 ∧ ∀ p H', Ext H H' → Mo C H' (.ref p) ((Rat.divInt t b) ^ n) → Q (.ref p) H'
theorem sm_pow {t b : Int} {m n i : Nat} (h : b ≠ 0) (ht : Bn m t) (hb : Bn m b) (hn : m * n + 1 ≤ 3900) (hi : i ≤ n) : Sm 3900 ((Rat.divInt t b) ^ i) := by
  rw [pow_div]
  have l : m * i + 1 ≤ 3900 := Nat.le_trans (Nat.succ_le_succ (Nat.mul_le_mul_left m hi)) hn
  exact sm_div (pow_ne h i) ((bn_pow ht i).mono l) ((bn_pow hb i).mono l)
theorem ok_Moment___pow__ (T : Tx K mg) : FnOk P w K mg base CX0 7 T.a_Moment___pow__ T.d_Moment___pow__ ["self", "other"] (spPow T.C_Moment) := by
  refine T.F_Moment___pow__.ok sc_Moment___pow__ (fun vs H Q E h => ?_) (fun cdv A outer s H vs Q E hr h => ?_)
  · obtain ⟨v, i, n, m, t, b, rfl, _⟩ := h
    rfl
  · obtain ⟨v, i, n, m, t, b, rfl, rfl, mo, hb0, ht, hb, hm, hmn, hn, k⟩ := h
    have G_Moment___init__ : FnOk P w K mg base (L2.CX P w) 3 T.a_Moment___init__ T.d_Moment___init__ ["self", "top", "bottom"] (spMom T.C_Moment T.C_NoMoment) := ok_Moment___init__ T
    have G_mul : FnOk P w K mg base CX0 5 T.a_Moment___mul__ T.d_Moment___mul__ ["self", "other"] (spBin (fun q r => q * r) T.C_Moment) := ok_Moment___mul__ T
    obtain ⟨ds2, V2_Moment___init__, B2_Moment___init__⟩ := mom_binds2 T
    have hr_Moment___init__ : Room 4 _ := hr.mono (by decide : 4 ≤ 6)
    have hr_mul : Room 5 _ := hr.mono (by decide : 5 ≤ 6)
    refine ⟨_, ((pss_cons (ps_if (pt_not (pt_val (pe_callB call_isi (by rfl) T.n_isinstance boot_isinstance (pa_cons (pv 1) (pa_cons (pe_bltn (v := .ty "int") rfl T.n_int boot_int rfl) pa_nil))))) (pss_one ps_never) pss_nil)
 (pss_cons (ps_set (i := 2) sc_Moment___pow__.nd rfl (Or.inl rfl) (pe_makeR T.M_Moment G_Moment___init__ hr_Moment___init__ rfl T.g_Moment B2_Moment___init__ V2_Moment___init__ passL (pa_cons pe_int pa_nil)))
 (pss_cons (ps_for PassesOwn.never rfl (pi_range1 rfl T.n_range (pa_cons (pv 1) pa_nil)) (pg_name (i := 3) sc_Moment___pow__.nd rfl (Or.inl rfl)) (pss_one (ps_set (i := 2) sc_Moment___pow__.nd rfl (Or.inl rfl) (pe_op (op_ins T.o_Moment T.io_mul G_mul hr_mul T.b_Moment___mul__ pass0) (pv 2) (pv 0)))))
 (pss_one (ps_ret (pv 2))))))), ?_⟩
    walk_at "vc"
    refine w_mom rfl (by decide) (by decide) (by decide) fun p0 H0 e0 m0 => ?_
    walk_at "vc"
    have sq : Sm 3900 (Rat.divInt t b) := sm_div hb0 (ht.mono hm) (hb.mono hm)
    have n0 : (n : Int).toNat = n := by omega
    refine ⟨_, rfl, by omega, by omega, for_range (lo := 0) (n := (n : Int).toNat) (fun i σ H' => ∃ (p : Addr) (v3 : Option V), σ = [some v, some (.int (n : Int)), some (.ref p), v3] ∧ Ext H H' ∧ Mo T.C_Moment H' (.ref p) ((Rat.divInt t b) ^ i))
      ⟨p0, none, rfl, e0, by rw [Rat.pow_zero]; rw [divInt_one] at m0; exact m0⟩ ?_ ?_⟩
    · rintro i σ H' hi ⟨p, v3, rfl, e, mp⟩
      rw [n0] at hi
      walk_at "vc"
      refine w_bin mp (sm_pow hb0 ht hb hmn (Nat.le_of_lt hi)) (.inr ⟨mo.up e, sq⟩) fun p2 H2 e2 m2 => ?_
      walk_at "vc"
      rw [← Rat.pow_succ] at m2
      exact ⟨p2, _, rfl, e.t e2, m2⟩
    · rintro σ H' ⟨p, v3, rfl, e, mp⟩
      rw [n0] at mp
      walk_at "vc"
      exact k p H' e mp
theorem w_power {C : Addr} {v : V} {i : Int} {n m : Nat} {t b : Int} {H : Hp} {Q : VK} {E : XK} (e : i = (n : Int)) (mo : Mo C H v (Rat.divInt t b)) (h0 : b ≠ 0) (ht : Bn m t) (hb : Bn m b) (hm : m ≤ 3900) (hmn : m * n + 1 ≤ 3900) (hn : n ≤ 1000)
    (k : ∀ p H', Ext H H' → Mo C H' (.ref p) ((Rat.divInt t b) ^ n) → Q (.ref p) H') : rIns C (spPow C) E v (.int i) H Q := by
  obtain ⟨a, dx, rfl, z⟩ := id mo
  exact ⟨a, dx, _, rfl, z, .inl ⟨i, rfl⟩, _, i, n, m, t, b, rfl, e, mo, h0, ht, hb, hm, hmn, hn, k⟩
def spPower : Sp := fun vs H Q _ => ∃ (t i : Int) (n m : Nat), vs = [.int t, .int i] ∧ i = (n : Int) ∧ Bn m t ∧ 1 ≤ m ∧ m ≤ 5000 ∧ m * n + 1 ≤ 5000 ∧ n ≤ 1000 ∧ Q (.int (t ^ n)) H
theorem c_power {t i : Int} {n m : Nat} {H : Hp} {Q : VK} {E : XK} (e : i = (n : Int)) (ht : Bn m t) (h1 : 1 ≤ m) (hm : m ≤ 5000) (hmn : m * n + 1 ≤ 5000) (hn : n ≤ 1000) (k : Q (.int (t ^ n)) H) : spPower [.int t, .int i] H Q E := ⟨t, i, n, m, rfl, e, ht, h1, hm, hmn, hn, k⟩
theorem ok__law_power (T : Tx K mg) : FnOk P w K mg base CX0 1 T.a__law_power T.d__law_power ["_law_top", "_law_n"] spPower := by
  refine T.F__law_power.ok sc__law_power (fun vs H Q E h => ?_) (fun cdv A outer s H vs Q E hr h => ?_)
  · obtain ⟨t, i, n, m, rfl, _⟩ := h
    rfl
  · obtain ⟨t, i, n, m, rfl, rfl, ht, h1, hm, hmn, hn, k⟩ := h
    refine ⟨_, ((pss_cons (ps_set (i := 2) sc__law_power.nd rfl (Or.inl rfl) pe_int)
 (pss_cons (ps_for PassesOwn.never rfl (pi_range1 rfl T.n_range (pa_cons (pv 1) pa_nil)) (pg_name (i := 3) sc__law_power.nd rfl (Or.inl rfl)) (pss_one (ps_set (i := 2) sc__law_power.nd rfl (Or.inl rfl) (pe_op op_mulW (pv 2) (pv 0)))))
 (pss_one (ps_ret (pv 2)))))), ?_⟩
    walk_at "vc"
    have n0 : (n : Int).toNat = n := by omega
    refine ⟨_, rfl, by omega, by omega, for_range (lo := 0) (n := (n : Int).toNat) (fun i σ H' => H' = H ∧ ∃ (v3 : Option V), σ = [some (.int t), some (.int (n : Int)), some (.int (t ^ i)), v3]) ⟨rfl, none, by rw [Int.pow_zero]; rfl⟩ ?_ ?_⟩
    · rintro i σ H' hi ⟨rfl, v3, rfl⟩
      rw [n0] at hi
      walk_at "vc"
      have l : m * i + 1 ≤ 5000 := Nat.le_trans (Nat.succ_le_succ (Nat.mul_le_mul_left m (Nat.le_of_lt hi))) hmn
      refine w_mulW (m := 5000) (n := 5000) ((bn_pow ht i).mono l) (ht.mono hm) (by decide) (by decide) (by decide) ?_
      walk_at "vc"
      exact ⟨rfl, _, by rw [Int.pow_succ]; rfl⟩
    · rintro σ H' ⟨rfl, v3, rfl⟩
      rw [n0]
      walk_at "vc"
      exact k
end
end AT
namespace AT
open PySem PySem.Spec PyProof.Rows L2
section
variable {P : Program} {w : World} {K : PySem.W.Frag} {mg : Str → Option Value} {base : Heap}
theorem momF_none {f : Str} {q : Rat} (h1 : (f == "top") = false) (h2 : (f == "bottom") = false) : (momF q).lookup f = none := by
  unfold momF
  rw [List.lookup_cons, h1]
  show List.lookup f [_] = none
  rw [List.lookup_cons, h2]
  rfl
def spAsM (C : Addr) : Sp := fun vs H Q _ => ∃ (y : V) (r : Rat), vs = [y] ∧ Opd 3900 C H y r ∧ ∀ p H', Ext H H' → Mo C H' (.ref p) r → Q (.ref p) H'
theorem c_asM {C : Addr} {y : V} {r : Rat} {H : Hp} {Q : VK} {E : XK} (o : Opd 3900 C H y r) (k : ∀ p H', Ext H H' → Mo C H' (.ref p) r → Q (.ref p) H') : spAsM C [y] H Q E := ⟨y, r, rfl, o, k⟩
theorem ok_as_moment (T : Tx K mg) : FnOk P w K mg base CX0 5 T.a_as_moment T.d_as_moment ["value"] (spAsM T.C_Moment) := by
  refine T.F_as_moment.ok sc_as_moment (fun vs H Q E h => ?_) (fun cdv A outer s H vs Q E hr h => ?_)
  · obtain ⟨y, r, rfl, _⟩ := h
    rfl
  · obtain ⟨y, r, rfl, o, k⟩ := h
    have G_Moment___init__ : FnOk P w K mg base (L2.CX P w) 3 T.a_Moment___init__ T.d_Moment___init__ ["self", "top", "bottom"] (spMom T.C_Moment T.C_NoMoment) := ok_Moment___init__ T
    obtain ⟨ds2, V2_Moment___init__, B2_Moment___init__⟩ := mom_binds2 T
    have hr_Moment___init__ : Room 4 _ := hr
    refine ⟨_, ((pss_cons (ps_if (pt_val (pe_callB call_isi (by rfl) T.n_isinstance boot_isinstance (pa_cons (pv 0) (pa_cons (pe_bltn (v := .ty "int") rfl T.n_int boot_int rfl) pa_nil)))) (pss_one (ps_ret (pe_makeR T.M_Moment G_Moment___init__ hr_Moment___init__ rfl T.g_Moment B2_Moment___init__ V2_Moment___init__ passL (pa_cons (pv 0) pa_nil)))) pss_nil)
 (pss_one (ps_ret (pv 0))))), ?_⟩
    rcases o with ⟨i, rfl, rfl, bi⟩ | ⟨m, sm⟩
    · walk_at "vc"
      refine w_mom rfl (bn_up bi) (by decide) (by decide) fun p H1 e m1 => ?_
      rw [divInt_one] at m1
      exact k p H1 e m1
    · walk_at "vc"
      refine w_moInt m ?_
      walk_at "vc"
      obtain ⟨a, dx, rfl, z⟩ := m
      exact k a H (fun _ _ e => e) ⟨a, dx, rfl, z⟩
/-- v.over(y) -/
def spOver (C : Addr) : Sp := fun vs H Q E => ∃ (v y : V) (q r : Rat), vs = [v, y] ∧ Mo C H v q ∧ Sm 3900 q ∧ Opd 3900 C H y r ∧ Sm 3900 r ∧ (r.num = 0 → ∀ d H', Ext H H' → E (.type "ZeroDivisionError") d H') ∧
  (r.num ≠ 0 → ∀ p H', Ext H H' → Mo C H' (.ref p) (Rat.divInt (q.num * r.den) (q.den * r.num)) → Q (.ref p) H')
theorem ok_Moment_over (T : Tx K mg) : FnOk P w K mg base (L2.CX P w) 6 T.a_Moment_over T.d_Moment_over ["self", "other"] (spOver T.C_Moment) := by
  refine T.F_Moment_over.okX sc_Moment_over (fun vs H Q E h => ?_) (fun cdv A outer s H vs Q E hr h => ?_)
  · obtain ⟨v, y, q, r, rfl, _⟩ := h
    rfl
  · obtain ⟨v, y, q, r, rfl, m, sq, o, sr, kE, kQ⟩ := h
    have G_Moment___init__ : FnOk P w K mg base (L2.CX P w) 3 T.a_Moment___init__ T.d_Moment___init__ ["self", "top", "bottom"] (spMom T.C_Moment T.C_NoMoment) := ok_Moment___init__ T
    have G_as_moment : FnOk P w K mg base CX0 5 T.a_as_moment T.d_as_moment ["value"] (spAsM T.C_Moment) := ok_as_moment T
    obtain ⟨ds3, V3_Moment___init__, B3_Moment___init__⟩ := mom_binds3 T
    have hr_Moment___init__ : Room 4 _ := hr.mono (by decide : 4 ≤ 5)
    have hr_as_moment : Room 5 _ := hr
    refine ⟨_, ((pss_cons (ps_set (i := 2) sc_Moment_over.nd rfl (Or.inl rfl) (pe_call G_as_moment hr_as_moment rfl T.g_as_moment T.F_as_moment.kp T.b_as_moment .nil pass0 (pa_cons (pv 1) pa_nil)))
 (pss_cons (ps_if (pt_cmpR op_eq (pe_fld (pv 2) rfl) pe_int (nomark _)) (pss_one (ps_raiseB rfl (takes_of rfl rfl rfl rfl) exb_ZeroDivisionError rfl T.n_ZeroDivisionError boot_ZeroDivisionError)) pss_nil)
 (pss_one (ps_ret (pe_makeR T.M_Moment G_Moment___init__ hr_Moment___init__ rfl T.g_Moment B3_Moment___init__ V3_Moment___init__ passL (pa_cons (pe_op op_mulW (pe_fld (pv 0) rfl) (pe_fld (pv 2) rfl)) (pa_cons (pe_op op_mulW (pe_fld (pv 0) rfl) (pe_fld (pv 2) rfl)) pa_nil)))))))), ?_⟩
    walk_at "vc"
    refine c_asM o fun p1 H1 e1 m2 => ?_
    replace m := m.up e1
    walk_at "vc"
    refine w_top m2 ?_
    walk_at "vc"
    refine i_dec (fun z => ?_) (fun z => ?_)
    · walk_at "vc"
      exact kE z _ _ e1
    · walk_at "vc"
      refine w_top m ?_
      walk_at "vc"
      refine w_bottom m2 ?_
      walk_at "vc"
      refine w_m39 sq.num sr.den ?_
      walk_at "vc"
      refine w_bottom m ?_
      walk_at "vc"
      refine w_top m2 ?_
      walk_at "vc"
      refine w_m39 sq.den sr.num ?_
      walk_at "vc"
      refine w_mom rfl (bn_mulU sq.num sr.den) (bn_mulU sq.den sr.num) (Int.mul_ne_zero (dne q) z) fun p H2 e2 m3 => ?_
      exact kQ z p H2 (e1.t e2) m3
def spQuot (C : Addr) : Sp := fun vs H Q _ => ∃ (v y : V) (t b t' b' : Int), vs = [v, y, .int t, .int b, .int t', .int b'] ∧ Mo C H v (Rat.divInt t b) ∧ Opd 3900 C H y (Rat.divInt t' b') ∧ b ≠ 0 ∧ b' ≠ 0 ∧ Bn 500 t ∧ Bn 500 b ∧ Bn 500 t' ∧ Bn 500 b' ∧ ∀ H', Ext H H' → Q (.bl true) H'
theorem c_quot {C : Addr} {v y : V} {t b t' b' : Int} {H : Hp} {Q : VK} {E : XK} (m : Mo C H v (Rat.divInt t b)) (o : Opd 3900 C H y (Rat.divInt t' b')) (z : b ≠ 0) (z' : b' ≠ 0) (h1 : Bn 500 t) (h2 : Bn 500 b) (h3 : Bn 500 t') (h4 : Bn 500 b') (k : ∀ H', Ext H H' → Q (.bl true) H') : spQuot C [v, y, .int t, .int b, .int t', .int b'] H Q E := ⟨v, y, t, b, t', b', rfl, m, o, z, z', h1, h2, h3, h4, k⟩
theorem ok__law_quotient (T : Tx K mg) : FnOk P w K mg base CX0 7 T.a__law_quotient T.d__law_quotient ["_law_a", "_law_b", "_law_top", "_law_bottom", "_law_other_top", "_law_other_bottom"] (spQuot T.C_Moment) := by
  refine T.F__law_quotient.ok sc__law_quotient (fun vs H Q E h => ?_) (fun cdv A outer s H vs Q E hr h => ?_)
  · obtain ⟨x, y, t, b, t', b', rfl, _⟩ := h
    rfl
  · obtain ⟨x, y, t, b, t', b', rfl, m, o, z, z', h1, h2, h3, h4, k⟩ := h
    have G__law_holds : FnOk P w K mg base CX0 2 T.a__law_holds T.d__law_holds ["_law_actual", "_law_top", "_law_bottom"] (spHolds T.C_Moment) := ok__law_holds T
    have G_over : FnOk P w K mg base (L2.CX P w) 6 T.a_Moment_over T.d_Moment_over ["self", "other"] (spOver T.C_Moment) := ok_Moment_over T
    have hr__law_holds : Room 2 _ := hr.mono (by decide : 2 ≤ 6)
    have hr_over : Room 6 _ := hr
    refine ⟨_, ((pss_cons (ps_set (i := 6) sc__law_quotient.nd rfl (Or.inl rfl) pe_non)
 (pss_cons (ps_set (i := 7) sc__law_quotient.nd rfl (Or.inl rfl) pe_bl)
 (pss_cons (ps_try_only rfl rfl ⟨rfl, by decide, Or.inr ⟨T.n_ZeroDivisionError, boot_ZeroDivisionError, by decide⟩⟩ takes0 (fun W pn xe tk _ => (pss_one (ps_set (i := 6) sc__law_quotient.nd rfl (Or.inl rfl) (pe_methA (pv 0) T.o_Moment.cl T.mt_Moment_over G_over hr_over T.b_Moment_over (fun σ => passAt tk σ) (pa_cons (pv 1) pa_nil))))) (fun a oe cls d pn hz hf => (pss_one (ps_set (i := 7) sc__law_quotient.nd rfl (Or.inl rfl) pe_bl))))
 (pss_cons (ps_if (pt_cmpR op_eq (pv 4) pe_int (nomark _)) (pss_one (ps_ret (pv 7))) pss_nil)
 (pss_one (ps_ret (pe_and (pe_not (pv 7)) (pe_one (pe_call G__law_holds hr__law_holds rfl T.g__law_holds T.F__law_holds.kp T.b__law_holds .nil pass0 (pa_cons (pv 6) (pa_cons (pe_op op_mulW (pv 2) (pv 5)) (pa_cons (pe_op op_mulW (pv 3) (pv 4)) pa_nil))))))))))))), ?_⟩
    walk_at "vc"
    have sq : Sm 3900 (Rat.divInt t b) := sm_div z (h1.mono (by decide)) (h2.mono (by decide))
    have sr : Sm 3900 (Rat.divInt t' b') := sm_div z' (h3.mono (by decide)) (h4.mono (by decide))
    obtain ⟨a, dx, rfl, u⟩ := id m
    refine ⟨a, dx, _, rfl, u, momF_none (by decide +kernel) (by decide +kernel), ?_⟩
    walk_at "vc"
    by_cases ht : t' = 0
    · have n0 : (Rat.divInt t' b').num = 0 := (rat_num0 z').mpr ht
      refine ⟨_, _, _, _, rfl, m, sq, o, sr, fun _ d H1 e1 => ⟨true, exm_ZDE, fun _ ae nae => ?_, fun z => nomatch z⟩, fun ne => absurd n0 ne⟩
      walk_at "vc"
      refine i_yes (decide_eq_true ht) ?_
      walk_at "vc"
      exact k _ e1
    · have n0 : (Rat.divInt t' b').num ≠ 0 := fun e => ht ((rat_num0 z').mp e)
      refine ⟨_, _, _, _, rfl, m, sq, o, sr, fun e => absurd e n0, fun _ p1 H1 e1 m1 => ?_⟩
      rw [quo_eq z z' ht] at m1
      walk_at "vc"
      refine i_no (decide_eq_false ht) ?_
      walk_at "vc"
      refine w_mulW (m := 500) (n := 500) h1 h4 (by decide) (by decide) (by decide) ?_
      walk_at "vc"
      refine w_mulW (m := 500) (n := 500) h2 h3 (by decide) (by decide) (by decide) ?_
      walk_at "vc"
      exact c_holdsD m1 rfl (Int.mul_ne_zero z ht) ((h1.mul h4).mono (by decide)) ((h2.mul h3).mono (by decide)) (k _ e1)
end
end AT
namespace AT
open PySem PySem.Spec PyProof.Rows L2
section
variable {P : Program} {w : World} {K : PySem.W.Frag} {mg : Str → Option Value} {base : Heap}
/-- what stands between the law's lines; va: None as yet, or the first moment -/
def Mid6 (K : PySem.W.Frag) (a r0 : Addr) (rows : List V) : L2.St → Hp → Prop := fun σ H => ∃ (p1 p2 : Addr) (t1 d1 t2 d2 : Int), σ = [some (.ref a), some (.ref r0), some (.ref p1), some (.ref p2), none, none, none, none, none, none] ∧
  SqL K H r0 rows ∧ SqT K H p1 [.int t1, .int d1] ∧ SqT K H p2 [.int t2, .int d2] ∧ d1 ≠ 0 ∧ d2 ≠ 0 ∧ Bn 67 t1 ∧ Bn 67 d1 ∧ Bn 100 t2 ∧ Bn 100 d2
/-- .. and what stays to the end -/
structure S6 (K : PySem.W.Frag) (C : Addr) (H : Hp) (r0 p1 pa : Addr) (rows : List V) (t1 d1 : Int) : Prop where
  uR : SqL K H r0 rows
  u1 : SqT K H p1 [.int t1, .int d1]
  mA : Mo C H (.ref pa) (Rat.divInt t1 d1)
theorem S6.up {C : Addr} {H H' : Hp} {r0 p1 pa : Addr} {rows : List V} {t1 d1 : Int} (h : S6 K C H r0 p1 pa rows t1 d1) (e : Ext H H') : S6 K C H' r0 p1 pa rows t1 d1 := ⟨e.seq h.uR, e.seqT h.u1, h.mA.up e⟩
/-- pairs of a power and its exponent -/
def Prs6 (K : PySem.W.Frag) (C : Addr) (H : Hp) (t b : Int) (N : Nat) (xs : List V) : Prop := ∀ y ∈ xs, ∃ (p m : Addr) (i : Int) (n : Nat), y = .ref p ∧ SqT K H p [.ref m, .int i] ∧ i = (n : Int) ∧ Mo C H (.ref m) ((Rat.divInt t b) ^ n) ∧ n ≤ N
theorem Prs6.nil {C : Addr} {H : Hp} {t b : Int} {N : Nat} : Prs6 K C H t b N [] := fun y h => by simp at h
theorem Prs6.up {C : Addr} {H H' : Hp} {t b : Int} {N : Nat} {xs : List V} (h : Prs6 K C H t b N xs) (e : Ext H H') : Prs6 K C H' t b N xs := fun y hy => by
  obtain ⟨p, m, i, n, a, b, c, d, f⟩ := h y hy
  exact ⟨p, m, i, n, a, e.seqT b, c, d.up e, f⟩
theorem Prs6.snoc {C : Addr} {H : Hp} {t b : Int} {N : Nat} {xs : List V} {p m : Addr} {i : Int} (n : Nat) (h : Prs6 K C H t b N xs) (u : SqT K H p [.ref m, .int i]) (e : i = (n : Int)) (mo : Mo C H (.ref m) ((Rat.divInt t b) ^ n)) (l : n ≤ N) : Prs6 K C H t b N (xs ++ [.ref p]) := fun y hy => by
  rcases List.mem_append.mp hy with hy | hy
  · exact h y hy
  · rw [List.mem_singleton] at hy
    exact ⟨p, m, i, n, hy, u, e, mo, l⟩
theorem w_uni {C : Addr} {f : Rat → Rat} {v : V} {q : Rat} {H : Hp} {Q : VK} {E : XK} (m : Mo C H v q) (s : Sm 3900 q) (k : ∀ p H', Ext H H' → Mo C H' (.ref p) (f q) → Q (.ref p) H') : rUnIns C (spUni f C) E v H Q := by
  obtain ⟨a, dx, rfl, z⟩ := id m
  exact ⟨a, dx, _, rfl, z, _, q, rfl, m, s, k⟩
theorem w_absO {C : Addr} {f : Rat → Rat} {v : V} {q : Rat} {H : Hp} {Q : VK} {E : XK} (m : Mo C H v q) (s : Sm 3900 q) (k : ∀ p H', Ext H H' → Mo C H' (.ref p) (f q) → Q (.ref p) H') : rOwn1 C (spUni f C) E [v] H Q := by
  obtain ⟨a, dx, rfl, z⟩ := id m
  exact ⟨a, dx, _, rfl, z, _, q, rfl, m, s, k⟩
theorem w_boolO {C : Addr} {v : V} {q : Rat} {H : Hp} {Q : VK} {E : XK} (m : Mo C H v q) (s : Sm 3900 q) (k : Q (.bl (!decide (q.num = 0))) H) : rOwnB C (spTru C) E [v] H Q := by
  obtain ⟨a, dx, rfl, z⟩ := id m
  exact ⟨a, dx, _, rfl, z, _, q, rfl, m, s, _, rfl, k⟩
theorem w_eqBT {a b : Bool} {H : Hp} {Q : VK} (e : a = b) (h : Q (.bl true) H) : rEq (.bl a) (.bl b) H Q := ⟨rfl, by subst e; rw [decide_eq_true rfl]; exact h⟩
theorem w_pair {k : Nat} {j : Nat} {p : Addr} {x y : V} {σ : L2.St} {H : Hp} {Q : L2.St → Hp → Prop} (u : SqT K H p [x, y]) (h : Q ((σ.set k (some x)).set j (some y)) H) : gTup K 2 (gCons (gName k) (gCons (gName j) gNil)) (.ref p) σ H Q := ⟨p, _, rfl, u, rfl, _, _, rfl, _, _, rfl, rfl, h⟩
theorem ok_law (T : Tx K mg) : FnOk P w K mg base CX0 11 T.a_law T.d_law ["_law_script"] (spLaw K) := by
  refine T.F_law.ok sc_law (fun vs H Q E h => ?_) (fun cdv A outer s H vs Q E hr h => ?_)
  · obtain ⟨a, ns, rfl, _⟩ := h
    rfl
  · obtain ⟨a, ns, rfl, l, hz, q⟩ := h
    have G__law_cell : FnOk P w K mg base CX0 1 T.a__law_cell T.d__law_cell ["_law_script", "_law_k"] (spCell K) := ok__law_cell T
    have G__law_row : FnOk P w K mg base CX0 1 T.a__law_row T.d__law_row ["_law_cell_here", "_law_sizes"] (spRow K) := ok__law_row T
    have G__law_ratio : FnOk P w K mg base CX0 2 T.a__law_ratio T.d__law_ratio ["_law_a", "_law_b", "_law_most"] spRatio := ok__law_ratio T
    have G__law_holds : FnOk P w K mg base CX0 2 T.a__law_holds T.d__law_holds ["_law_actual", "_law_top", "_law_bottom"] (spHolds T.C_Moment) := ok__law_holds T
    have G__law_power : FnOk P w K mg base CX0 1 T.a__law_power T.d__law_power ["_law_top", "_law_n"] spPower := ok__law_power T
    have G__law_quotient : FnOk P w K mg base CX0 7 T.a__law_quotient T.d__law_quotient ["_law_a", "_law_b", "_law_top", "_law_bottom", "_law_other_top", "_law_other_bottom"] (spQuot T.C_Moment) := ok__law_quotient T
    have G_pow : FnOk P w K mg base CX0 7 T.a_Moment___pow__ T.d_Moment___pow__ ["self", "other"] (spPow T.C_Moment) := ok_Moment___pow__ T
    have G_neg : FnOk P w K mg base CX0 5 T.a_Moment___neg__ T.d_Moment___neg__ ["self"] (spUni (fun q => -q) T.C_Moment) := ok_Moment___neg__ T
    have G_abs : FnOk P w K mg base CX0 5 T.a_Moment___abs__ T.d_Moment___abs__ ["self"] (spUni fAbs T.C_Moment) := ok_Moment___abs__ T
    have G_bool : FnOk P w K mg base CX0 1 T.a_Moment___bool__ T.d_Moment___bool__ ["self"] (spTru T.C_Moment) := ok_Moment___bool__ T
    have G_Moment___init__ : FnOk P w K mg base (L2.CX P w) 3 T.a_Moment___init__ T.d_Moment___init__ ["self", "top", "bottom"] (spMom T.C_Moment T.C_NoMoment) := ok_Moment___init__ T
    obtain ⟨ds3, V3_Moment___init__, B3_Moment___init__⟩ := mom_binds3 T
    have hr1 : Room 1 _ := hr.mono (by decide : 1 ≤ 10)
    have hr2 : Room 2 _ := hr.mono (by decide : 2 ≤ 10)
    have hr__law_cell := hr1
    have hr__law_row := hr1
    have hr__law_power := hr1
    have hr__law_holds := hr2
    have hr__law_ratio := hr2
    have hr__law_quotient : Room 7 _ := hr.mono (by decide : 7 ≤ 10)
    have hr_pow : Room 7 _ := hr.mono (by decide : 7 ≤ 10)
    have hr_neg : Room 5 _ := hr.mono (by decide : 5 ≤ 10)
    have hr_abs : Room 6 _ := hr.mono (by decide : 6 ≤ 10)
    have hr_bool : Room 3 _ := hr.mono (by decide : 3 ≤ 10)
    have hr_Moment___init__ : Room 4 _ := hr.mono (by decide : 4 ≤ 10)
    refine ⟨_, ((pss_cons (ps_set (i := 1) sc_law.nd rfl (Or.inl rfl) (pe_call G__law_row hr__law_row rfl T.g__law_row T.F__law_row.kp T.b__law_row .nil pass0 (pa_cons (pe_call G__law_cell hr__law_cell rfl T.g__law_cell T.F__law_cell.kp T.b__law_cell .nil pass0 (pa_cons (pv 0) (pa_cons pe_int pa_nil))) (pa_cons (pe_lst (pa_cons pe_int (pa_cons pe_int (pa_cons pe_int (pa_cons pe_int (pa_cons pe_int pa_nil)))))) pa_nil))))
 (pss_cons (ps_set (i := 2) sc_law.nd rfl (Or.inl rfl) (pe_call G__law_ratio hr__law_ratio rfl T.g__law_ratio T.F__law_ratio.kp T.b__law_ratio .nil pass0 (pa_cons (pe_call G__law_cell hr__law_cell rfl T.g__law_cell T.F__law_cell.kp T.b__law_cell .nil pass0 (pa_cons (pv 0) (pa_cons pe_int pa_nil))) (pa_cons (pe_call G__law_cell hr__law_cell rfl T.g__law_cell T.F__law_cell.kp T.b__law_cell .nil pass0 (pa_cons (pv 0) (pa_cons pe_int pa_nil))) (pa_cons (pe_op op_pow pe_int pe_int) pa_nil)))))
 (pss_cons (ps_set (i := 3) sc_law.nd rfl (Or.inl rfl) (pe_call G__law_ratio hr__law_ratio rfl T.g__law_ratio T.F__law_ratio.kp T.b__law_ratio .nil pass0 (pa_cons (pe_call G__law_cell hr__law_cell rfl T.g__law_cell T.F__law_cell.kp T.b__law_cell .nil pass0 (pa_cons (pv 0) (pa_cons pe_int pa_nil))) (pa_cons (pe_call G__law_cell hr__law_cell rfl T.g__law_cell T.F__law_cell.kp T.b__law_cell .nil pass0 (pa_cons (pv 0) (pa_cons pe_int pa_nil))) (pa_cons (pe_op op_pow pe_int pe_int) pa_nil)))))
 (Evl.pss_cut (ps_if (pt_cmpR op_eq (pe_ix ix_list (pv 1) pe_int (fun _ _ => rfl)) pe_int (nomark _)) (pss_one (ps_set (i := 3) sc_law.nd rfl (Or.inl rfl) (pe_tup (pa_cons pe_int (pa_cons (pe_ix ix_tup (pv 3) pe_int (fun _ _ => rfl)) pa_nil))))) pss_nil)
 (Evl.pss_cut (ps_if (pt_cmpR op_eq (pe_ix ix_list (pv 1) pe_int (fun _ _ => rfl)) pe_int (nomark _)) (pss_one (ps_set (i := 2) sc_law.nd rfl (Or.inl rfl) (pe_tup (pa_cons pe_int (pa_cons (pe_ix ix_tup (pv 2) pe_int (fun _ _ => rfl)) pa_nil))))) pss_nil)
 (pss_cons (ps_set (i := 4) sc_law.nd rfl (Or.inl rfl) (pe_makeR T.M_Moment G_Moment___init__ hr_Moment___init__ rfl T.g_Moment B3_Moment___init__ V3_Moment___init__ passL (pa_cons (pe_ix ix_tup (pv 2) pe_int (fun _ _ => rfl)) (pa_cons (pe_ix ix_tup (pv 2) pe_int (fun _ _ => rfl)) pa_nil))))
 (Evl.pss_cut (ps_if (pt_cmpR op_eq (pe_ix ix_list (pv 1) pe_int (fun _ _ => rfl)) pe_int (nomark _)) (pss_one (ps_if (pt_not (pt_val (pe_call G__law_quotient hr__law_quotient rfl T.g__law_quotient T.F__law_quotient.kp T.b__law_quotient .nil pass0 (pa_cons (pv 4) (pa_cons (pe_makeR T.M_Moment G_Moment___init__ hr_Moment___init__ rfl T.g_Moment B3_Moment___init__ V3_Moment___init__ passL (pa_cons (pe_ix ix_tup (pv 3) pe_int (fun _ _ => rfl)) (pa_cons (pe_ix ix_tup (pv 3) pe_int (fun _ _ => rfl)) pa_nil))) (pa_cons (pe_ix ix_tup (pv 2) pe_int (fun _ _ => rfl)) (pa_cons (pe_ix ix_tup (pv 2) pe_int (fun _ _ => rfl)) (pa_cons (pe_ix ix_tup (pv 3) pe_int (fun _ _ => rfl)) (pa_cons (pe_ix ix_tup (pv 3) pe_int (fun _ _ => rfl)) pa_nil))))))))) (pss_one (ps_ret pe_bl)) pss_nil)) (pss_one (ps_if (pt_not (pt_val (pe_call G__law_quotient hr__law_quotient rfl T.g__law_quotient T.F__law_quotient.kp T.b__law_quotient .nil pass0 (pa_cons (pv 4) (pa_cons (pe_ix ix_tup (pv 3) pe_int (fun _ _ => rfl)) (pa_cons (pe_ix ix_tup (pv 2) pe_int (fun _ _ => rfl)) (pa_cons (pe_ix ix_tup (pv 2) pe_int (fun _ _ => rfl)) (pa_cons (pe_ix ix_tup (pv 3) pe_int (fun _ _ => rfl)) (pa_cons pe_int pa_nil))))))))) (pss_one (ps_ret pe_bl)) pss_nil)))
 (pss_cons (ps_set (i := 5) sc_law.nd rfl (Or.inl rfl) (pe_lst (pa_cons (pe_tup (pa_cons (pe_op (op_ins T.o_Moment T.io_pow G_pow hr_pow T.b_Moment___pow__ pass0) (pv 4) pe_int) (pa_cons pe_int pa_nil))) (pa_cons (pe_tup (pa_cons (pe_op (op_ins T.o_Moment T.io_pow G_pow hr_pow T.b_Moment___pow__ pass0) (pv 4) pe_int) (pa_cons pe_int pa_nil))) (pa_cons (pe_tup (pa_cons (pe_op (op_ins T.o_Moment T.io_pow G_pow hr_pow T.b_Moment___pow__ pass0) (pv 4) pe_int) (pa_cons pe_int pa_nil))) (pa_cons (pe_tup (pa_cons (pe_op (op_ins T.o_Moment T.io_pow G_pow hr_pow T.b_Moment___pow__ pass0) (pv 4) pe_int) (pa_cons pe_int pa_nil))) (pa_cons (pe_tup (pa_cons (pe_op (op_ins T.o_Moment T.io_pow G_pow hr_pow T.b_Moment___pow__ pass0) (pv 4) pe_int) (pa_cons pe_int pa_nil))) (pa_cons (pe_tup (pa_cons (pe_op (op_ins T.o_Moment T.io_pow G_pow hr_pow T.b_Moment___pow__ pass0) (pv 4) pe_int) (pa_cons pe_int pa_nil))) (pa_cons (pe_tup (pa_cons (pe_op (op_ins T.o_Moment T.io_pow G_pow hr_pow T.b_Moment___pow__ pass0) (pv 4) pe_int) (pa_cons pe_int pa_nil))) pa_nil)))))))))
 (pss_cons (ps_for PassesOwn.never rfl (pi_list (pv 5)) (pg_tup rfl (pgs_cons (pg_name (i := 6) sc_law.nd rfl (Or.inl rfl)) (pgs_cons (pg_name (i := 7) sc_law.nd rfl (Or.inl rfl)) pgs_nil))) (pss_one (ps_if (pt_not (pt_val (pe_call G__law_holds hr__law_holds rfl T.g__law_holds T.F__law_holds.kp T.b__law_holds .nil pass0 (pa_cons (pv 6) (pa_cons (pe_call G__law_power hr__law_power rfl T.g__law_power T.F__law_power.kp T.b__law_power .nil pass0 (pa_cons (pe_ix ix_tup (pv 2) pe_int (fun _ _ => rfl)) (pa_cons (pv 7) pa_nil))) (pa_cons (pe_call G__law_power hr__law_power rfl T.g__law_power T.F__law_power.kp T.b__law_power .nil pass0 (pa_cons (pe_ix ix_tup (pv 2) pe_int (fun _ _ => rfl)) (pa_cons (pv 7) pa_nil))) pa_nil)))))) (pss_one (ps_ret pe_bl)) pss_nil)))
 (pss_cons (ps_set (i := 8) sc_law.nd rfl (Or.inl rfl) (pe_makeR T.M_Moment G_Moment___init__ hr_Moment___init__ rfl T.g_Moment B3_Moment___init__ V3_Moment___init__ passL (pa_cons (pe_op op_sub (pe_ix ix_list (pv 1) pe_int (fun _ _ => rfl)) pe_int) (pa_cons (pe_op op_add pe_int (pe_ix ix_list (pv 1) pe_int (fun _ _ => rfl))) pa_nil))))
 (pss_cons (ps_for PassesOwn.never rfl (pi_list (pe_lst (pa_cons (pe_tup (pa_cons (pe_op (op_ins T.o_Moment T.io_pow G_pow hr_pow T.b_Moment___pow__ pass0) (pv 8) pe_int) (pa_cons pe_int pa_nil))) (pa_cons (pe_tup (pa_cons (pe_op (op_ins T.o_Moment T.io_pow G_pow hr_pow T.b_Moment___pow__ pass0) (pv 8) pe_int) (pa_cons pe_int pa_nil))) (pa_cons (pe_tup (pa_cons (pe_op (op_ins T.o_Moment T.io_pow G_pow hr_pow T.b_Moment___pow__ pass0) (pv 8) pe_int) (pa_cons pe_int pa_nil))) (pa_cons (pe_tup (pa_cons (pe_op (op_ins T.o_Moment T.io_pow G_pow hr_pow T.b_Moment___pow__ pass0) (pv 8) pe_int) (pa_cons pe_int pa_nil))) pa_nil)))))) (pg_tup rfl (pgs_cons (pg_name (i := 6) sc_law.nd rfl (Or.inl rfl)) (pgs_cons (pg_name (i := 7) sc_law.nd rfl (Or.inl rfl)) pgs_nil))) (pss_one (ps_if (pt_not (pt_val (pe_call G__law_holds hr__law_holds rfl T.g__law_holds T.F__law_holds.kp T.b__law_holds .nil pass0 (pa_cons (pv 6) (pa_cons (pe_call G__law_power hr__law_power rfl T.g__law_power T.F__law_power.kp T.b__law_power .nil pass0 (pa_cons (pe_op op_sub (pe_ix ix_list (pv 1) pe_int (fun _ _ => rfl)) pe_int) (pa_cons (pv 7) pa_nil))) (pa_cons (pe_call G__law_power hr__law_power rfl T.g__law_power T.F__law_power.kp T.b__law_power .nil pass0 (pa_cons (pe_op op_add pe_int (pe_ix ix_list (pv 1) pe_int (fun _ _ => rfl))) (pa_cons (pv 7) pa_nil))) pa_nil)))))) (pss_one (ps_ret pe_bl)) pss_nil)))
 (pss_cons (ps_set (i := 9) sc_law.nd rfl (Or.inl rfl) pe_int)
 (Evl.pss_cut (ps_if (pt_cmpR op_lt (pe_op op_mulW (pe_ix ix_tup (pv 2) pe_int (fun _ _ => rfl)) (pe_ix ix_tup (pv 2) pe_int (fun _ _ => rfl))) pe_int (nomark _)) (pss_one (ps_set (i := 9) sc_law.nd rfl (Or.inl rfl) (pe_un un_neg pe_int))) pss_nil)
 (pss_cons (ps_if (PW.pt (pw_or (pt_not (pt_val (pe_call G__law_holds hr__law_holds rfl T.g__law_holds T.F__law_holds.kp T.b__law_holds .nil pass0 (pa_cons (pe_un (un_negIns T.m_Moment___neg__ G_neg hr_neg T.b_Moment___neg__ pass0) (pv 4)) (pa_cons (pe_un un_neg (pe_ix ix_tup (pv 2) pe_int (fun _ _ => rfl))) (pa_cons (pe_ix ix_tup (pv 2) pe_int (fun _ _ => rfl)) pa_nil)))))) (pw_or1 (pt_not (pt_val (pe_call G__law_holds hr__law_holds rfl T.g__law_holds T.F__law_holds.kp T.b__law_holds .nil pass0 (pa_cons (pe_callB (call_absOwn T.m_Moment___abs__ G_abs hr_abs T.b_Moment___abs__ pass0) (by rfl) T.n_abs boot_abs (pa_cons (pv 4) pa_nil)) (pa_cons (pe_op op_mulW (pv 9) (pe_ix ix_tup (pv 2) pe_int (fun _ _ => rfl))) (pa_cons (pe_ix ix_tup (pv 2) pe_int (fun _ _ => rfl)) pa_nil))))))))) (pss_one (ps_ret pe_bl)) pss_nil)
 (pss_one (ps_ret (pe_and (pe_cmpR op_eq (pe_callTy (call_boolOwn T.m_Moment___bool__ G_bool hr_bool T.b_Moment___bool__ pass0) (by rfl) T.n_bool boot_bool (pa_cons (pv 4) pa_nil)) (pe_cmpR op_ne (pe_ix ix_tup (pv 2) pe_int (fun _ _ => rfl)) pe_int (nomark _)) (nomark _)) (pe_one (pe_call G__law_holds hr__law_holds rfl T.g__law_holds T.F__law_holds.kp T.b__law_holds .nil pass0 (pa_cons (pv 4) (pa_cons (pe_ix ix_tup (pv 2) pe_int (fun _ _ => rfl)) (pa_cons (pe_ix ix_tup (pv 2) pe_int (fun _ _ => rfl)) pa_nil))))))))))))))))))))))), ?_⟩
    walk_at "vc"
    refine c_cell l (by decide) fun c4 => ?_
    walk_at "vc"
    refine n_lst (by decide) fun p0 H1 _ e1 u1 => ?_
    walk_at "vc"
    refine c_row (ss := [4, 2, 8, 19, 9]) (SqL.of u1) (by decide) (by decide) fun r0 rows n2 rk => ?_
    obtain ⟨k0, r1, rfl, _, _, rk⟩ := rk.cons
    obtain ⟨k1, r2, rfl, _, _, rk⟩ := rk.cons
    obtain ⟨k2, r3, rfl, _, _, rk⟩ := rk.cons
    obtain ⟨k3, r4, rfl, hk3, hk3', rk⟩ := rk.cons
    obtain ⟨k4, rfl, hk4, hk4'⟩ := rk.one
    have e2 := e1.t (Ext.new (o := .lst ([k0, k1, k2, k3, k4].map V.int)) n2)
    have u2 : (upd H1 r0 (.lst ([k0, k1, k2, k3, k4].map V.int))) r0 = some (.lst ([k0, k1, k2, k3, k4].map V.int)) := upd_same
    have uR : SqL K (upd H1 r0 (.lst ([k0, k1, k2, k3, k4].map V.int))) r0 [.int k0, .int k1, .int k2, .int k3, .int k4] := SqL.of u2
    generalize upd H1 r0 (.lst ([k0, k1, k2, k3, k4].map V.int)) = H2 at e2 uR
    clear u2 u1 e1 n2
    walk_at "vc"
    refine c_cell (e2.seq l) (by decide) fun c0 => ?_
    walk_at "vc"
    refine c_cell (e2.seq l) (by decide) fun c1 => ?_
    walk_at "vc"
    refine c_ratio (by decide +kernel) (by decide +kernel) fun t1 d1 p1 n3 t1a t1b d1a d1b d10 => ?_
    have e3 := e2.t (Ext.new (o := .tup [.int t1, .int d1]) n3)
    have u3 : SqT K (upd H2 p1 (.tup [.int t1, .int d1])) p1 [.int t1, .int d1] := SqT.of upd_same
    replace uR : SqL K (upd H2 p1 (.tup [.int t1, .int d1])) r0 _ := Same.seq (Ext.new n3) uR
    generalize upd H2 p1 (.tup [.int t1, .int d1]) = H3 at e3 u3 uR
    walk_at "vc"
    refine c_cell (e3.seq l) (by decide) fun c2 => ?_
    walk_at "vc"
    refine c_cell (e3.seq l) (by decide) fun c3 => ?_
    walk_at "vc"
    refine c_ratio (by decide +kernel) (by decide +kernel) fun t2 d2 p2 n4 t2a t2b d2a d2b d20 => ?_
    have e4 := e3.t (Ext.new (o := .tup [.int t2, .int d2]) n4)
    have u4 : SqT K (upd H3 p2 (.tup [.int t2, .int d2])) p2 [.int t2, .int d2] := SqT.of upd_same
    replace uR : SqL K (upd H3 p2 (.tup [.int t2, .int d2])) r0 _ := Same.seq (Ext.new n4) uR
    replace u3 : SqT K (upd H3 p2 (.tup [.int t2, .int d2])) p1 _ := Same.seqT (Ext.new n4) u3
    generalize upd H3 p2 (.tup [.int t2, .int d2]) = H4 at e4 u3 u4 uR
    have bt1 : Bn 67 t1 := bn_of (by decide +kernel) t1a t1b
    have bd1 : Bn 67 d1 := bn_of (by decide +kernel) d1a d1b
    have bt2 : Bn 100 t2 := bn_of (by decide +kernel) t2a t2b
    have bd2 : Bn 100 d2 := bn_of (by decide +kernel) d2a d2b
    clear t1a t1b d1a d1b t2a t2b d2a d2b e2 e3 e4 n3 n4
    walk_at "vc"
    refine ⟨Mid6 K a r0 [.int k0, .int k1, .int k2, .int k3, .int k4], ?_, ?_⟩
    · walk_at "vc"
      refine w_ixL uR rfl ?_
      walk_at "vc"
      refine i_dec (fun _ => ?_) (fun _ => ?_)
      · walk_at "vc"
        refine w_ixT u4 rfl ?_
        walk_at "vc"
        refine n_tup (by show 2 ≤ 100000; decide) fun p H5 _ e5 u5 => ?_
        walk_at "vc"
        exact ⟨p1, p, t1, d1, 0, d2, rfl, e5.seq uR, e5.seqT u3, SqT.of u5, d10, d20, bt1, bd1, by decide, bd2⟩
      · walk_at "vc"
        exact ⟨p1, p2, t1, d1, t2, d2, rfl, uR, u3, u4, d10, d20, bt1, bd1, bt2, bd2⟩
    clear uR u3 u4 d10 d20 bt1 bd1 bt2 bd2
    rintro σ H5 ⟨p1, p2, t1, d1, t2, d2, rfl, uR, u3, u4, d10, d20, bt1, bd1, bt2, bd2⟩
    refine ⟨Mid6 K a r0 [.int k0, .int k1, .int k2, .int k3, .int k4], ?_, ?_⟩
    · walk_at "vc"
      refine w_ixL uR rfl ?_
      walk_at "vc"
      refine i_dec (fun _ => ?_) (fun _ => ?_)
      · walk_at "vc"
        refine w_ixT u3 rfl ?_
        walk_at "vc"
        refine n_tup (by show 2 ≤ 100000; decide) fun p H5 _ e5 u5 => ?_
        walk_at "vc"
        exact ⟨p, p2, 0, d1, t2, d2, rfl, e5.seq uR, SqT.of u5, e5.seqT u4, d10, d20, by decide, bd1, bt2, bd2⟩
      · walk_at "vc"
        exact ⟨p1, p2, t1, d1, t2, d2, rfl, uR, u3, u4, d10, d20, bt1, bd1, bt2, bd2⟩
    clear uR u3 u4 d10 d20 bt1 bd1 bt2 bd2
    rintro σ H5 ⟨p1, p2, t1, d1, t2, d2, rfl, uR, u3, u4, d10, d20, bt1, bd1, bt2, bd2⟩
    walk_at "vc"
    refine w_ixT u3 rfl ?_
    walk_at "vc"
    refine w_ixT u3 rfl ?_
    walk_at "vc"
    refine w_mom rfl (bt1.mono (by decide)) (bd1.mono (by decide)) d10 fun pa H6 e6 mA => ?_
    have S : S6 K T.C_Moment H6 r0 p1 pa [.int k0, .int k1, .int k2, .int k3, .int k4] t1 d1 := ⟨e6.seq uR, e6.seqT u3, mA⟩
    replace u4 := e6.seqT u4
    clear mA u3 uR
    have sA : Sm 3900 (Rat.divInt t1 d1) := sm_div d10 (bt1.mono (by decide)) (bd1.mono (by decide))
    walk_at "vc"
    refine ⟨fun σ H7 => S6 K T.C_Moment H7 r0 p1 pa [.int k0, .int k1, .int k2, .int k3, .int k4] t1 d1 ∧ σ = [some (.ref a), some (.ref r0), some (.ref p1), some (.ref p2), some (.ref pa), none, none, none, none, none], ?_, ?_⟩
    · walk_at "vc"
      refine w_ixL S.uR rfl ?_
      walk_at "vc"
      refine i_dec (fun _ => ?_) (fun _ => ?_)
      · walk_at "vc"
        refine w_ixT u4 rfl ?_
        walk_at "vc"
        refine w_ixT u4 rfl ?_
        walk_at "vc"
        refine w_mom rfl (bt2.mono (by decide)) (bd2.mono (by decide)) d20 fun pb H7 e7 mB => ?_
        replace S := S.up e7
        replace u4 := e7.seqT u4
        walk_at "vc"
        refine w_ixT S.u1 rfl ?_
        walk_at "vc"
        refine w_ixT S.u1 rfl ?_
        walk_at "vc"
        refine w_ixT u4 rfl ?_
        walk_at "vc"
        refine w_ixT u4 rfl ?_
        walk_at "vc"
        refine c_quot S.mA (.inr ⟨mB, sm_div d20 (bt2.mono (by decide)) (bd2.mono (by decide))⟩) d10 d20 (bt1.mono (by decide)) (bd1.mono (by decide)) (bt2.mono (by decide)) (bd2.mono (by decide)) fun H8 e8 => ?_
        walk_at "vc"
        exact ⟨S.up e8, rfl⟩
      · walk_at "vc"
        refine w_ixT u4 rfl ?_
        walk_at "vc"
        refine w_ixT S.u1 rfl ?_
        walk_at "vc"
        refine w_ixT S.u1 rfl ?_
        walk_at "vc"
        refine w_ixT u4 rfl ?_
        walk_at "vc"
        refine c_quot S.mA (.inl ⟨t2, rfl, divInt_one, bt2.mono (by decide)⟩) d10 (by decide) (bt1.mono (by decide)) (bd1.mono (by decide)) (bt2.mono (by decide)) (by decide) fun H8 e8 => ?_
        walk_at "vc"
        exact ⟨S.up e8, rfl⟩
    clear S u4 d20 bt2 bd2 e6
    rintro σ H7 ⟨S, rfl⟩
    walk_at "vc"
    have L : Prs6 K T.C_Moment H7 t1 d1 13 [] := Prs6.nil
    refine w_power (n := 0) (m := 67) rfl S.mA d10 bt1 bd1 (by decide) (by decide) (by decide) fun px0 I0 ex0 mx0 => ?_
    replace S := S.up ex0
    replace L := L.up ex0
    walk_at "vc"
    refine n_tup (by show 2 ≤ 100000; decide) fun pt0 J0 _ et0 ut0 => ?_
    replace S := S.up et0
    replace L := (L.up et0).snoc 0 (SqT.of ut0) rfl (mx0.up et0) (by decide)
    walk_at "vc"
    refine w_power (n := 1) (m := 67) rfl S.mA d10 bt1 bd1 (by decide) (by decide) (by decide) fun px1 I1 ex1 mx1 => ?_
    replace S := S.up ex1
    replace L := L.up ex1
    walk_at "vc"
    refine n_tup (by show 2 ≤ 100000; decide) fun pt1 J1 _ et1 ut1 => ?_
    replace S := S.up et1
    replace L := (L.up et1).snoc 1 (SqT.of ut1) rfl (mx1.up et1) (by decide)
    walk_at "vc"
    refine w_power (n := 2) (m := 67) rfl S.mA d10 bt1 bd1 (by decide) (by decide) (by decide) fun px2 I2 ex2 mx2 => ?_
    replace S := S.up ex2
    replace L := L.up ex2
    walk_at "vc"
    refine n_tup (by show 2 ≤ 100000; decide) fun pt2 J2 _ et2 ut2 => ?_
    replace S := S.up et2
    replace L := (L.up et2).snoc 2 (SqT.of ut2) rfl (mx2.up et2) (by decide)
    walk_at "vc"
    refine w_power (n := 3) (m := 67) rfl S.mA d10 bt1 bd1 (by decide) (by decide) (by decide) fun px3 I3 ex3 mx3 => ?_
    replace S := S.up ex3
    replace L := L.up ex3
    walk_at "vc"
    refine n_tup (by show 2 ≤ 100000; decide) fun pt3 J3 _ et3 ut3 => ?_
    replace S := S.up et3
    replace L := (L.up et3).snoc 3 (SqT.of ut3) rfl (mx3.up et3) (by decide)
    walk_at "vc"
    refine w_power (n := 5) (m := 67) rfl S.mA d10 bt1 bd1 (by decide) (by decide) (by decide) fun px5 I5 ex5 mx5 => ?_
    replace S := S.up ex5
    replace L := L.up ex5
    walk_at "vc"
    refine n_tup (by show 2 ≤ 100000; decide) fun pt5 J5 _ et5 ut5 => ?_
    replace S := S.up et5
    replace L := (L.up et5).snoc 5 (SqT.of ut5) rfl (mx5.up et5) (by decide)
    walk_at "vc"
    refine w_power (n := 8) (m := 67) rfl S.mA d10 bt1 bd1 (by decide) (by decide) (by decide) fun px8 I8 ex8 mx8 => ?_
    replace S := S.up ex8
    replace L := L.up ex8
    walk_at "vc"
    refine n_tup (by show 2 ≤ 100000; decide) fun pt8 J8 _ et8 ut8 => ?_
    replace S := S.up et8
    replace L := (L.up et8).snoc 8 (SqT.of ut8) rfl (mx8.up et8) (by decide)
    walk_at "vc"
    refine w_power (n := 13) (m := 67) rfl S.mA d10 bt1 bd1 (by decide) (by decide) (by decide) fun px13 I13 ex13 mx13 => ?_
    replace S := S.up ex13
    replace L := L.up ex13
    walk_at "vc"
    refine n_tup (by show 2 ≤ 100000; decide) fun pt13 J13 _ et13 ut13 => ?_
    replace S := S.up et13
    replace L := (L.up et13).snoc 13 (SqT.of ut13) rfl (mx13.up et13) (by decide)
    walk_at "vc"
    refine n_lst (by show 7 ≤ 100000; decide) fun pw H8 _ e8 u8 => ?_
    replace S := S.up e8
    replace L := L.up e8
    walk_at "vc"
    refine ⟨pw, rfl, ⟨_, SqL.of u8⟩, for_list (K := K) (a := pw) (xs := [.ref pt0, .ref pt1, .ref pt2, .ref pt3, .ref pt5, .ref pt8, .ref pt13]) (fun i σ H9 => H9 = H8 ∧ ∃ v6 v7, σ = [some (.ref a), some (.ref r0), some (.ref p1), some (.ref p2), some (.ref pa), some (.ref pw), v6, v7, none, none]) ⟨rfl, none, none, rfl⟩ (fun i σ H9 _ h => by obtain ⟨rfl, _⟩ := h; exact SqL.of u8) ?_ ?_⟩
    · rintro i y σ H9 hi ⟨rfl, v6, v7, rfl⟩
      obtain ⟨p, m, j, n, rfl, u, rfl, mo, hn⟩ := L y (List.mem_of_getElem? hi)
      refine w_pair u ?_
      walk_at "vc"
      refine w_ixT S.u1 rfl ?_
      walk_at "vc"
      refine c_power (m := 67) rfl bt1 (by decide) (by decide) (by omega) (by omega) ?_
      walk_at "vc"
      refine w_ixT S.u1 rfl ?_
      walk_at "vc"
      refine c_power (m := 67) rfl bd1 (by decide) (by decide) (by omega) (by omega) ?_
      walk_at "vc"
      refine c_holdsD mo (pow_div n) (pow_ne d10 n) ((bn_pow bt1 n).mono (by omega)) ((bn_pow bd1 n).mono (by omega)) ?_
      walk_at "vc"
      exact ⟨rfl, _, _, rfl⟩
    rintro σ H9 ⟨rfl, v6, v7, rfl⟩
    clear L u8
    walk_at "vc"
    refine w_ixL S.uR rfl ?_
    walk_at "vc"
    refine w_ixL S.uR rfl ?_
    walk_at "vc"
    have bx : Bn 5 (k3 - 9) := by unfold Bn; omega
    have byy : Bn 5 (1 + k4) := by unfold Bn; omega
    have zy : 1 + k4 ≠ 0 := by omega
    refine w_mom rfl (bx.mono (by decide)) (byy.mono (by decide)) zy fun pz H10 e10 mT => ?_
    replace S := S.up e10
    walk_at "vc"
    have L : Prs6 K T.C_Moment H10 (k3 - 9) (1 + k4) 60 [] := Prs6.nil
    refine w_power (n := 21) (m := 5) rfl mT zy bx byy (by decide) (by decide) (by decide) fun px21 I21 ex21 mx21 => ?_
    replace S := S.up ex21
    replace L := L.up ex21
    replace mT := mT.up ex21
    walk_at "vc"
    refine n_tup (by show 2 ≤ 100000; decide) fun pt21 J21 _ et21 ut21 => ?_
    replace S := S.up et21
    replace L := (L.up et21).snoc 21 (SqT.of ut21) rfl (mx21.up et21) (by decide)
    replace mT := mT.up et21
    walk_at "vc"
    refine w_power (n := 34) (m := 5) rfl mT zy bx byy (by decide) (by decide) (by decide) fun px34 I34 ex34 mx34 => ?_
    replace S := S.up ex34
    replace L := L.up ex34
    replace mT := mT.up ex34
    walk_at "vc"
    refine n_tup (by show 2 ≤ 100000; decide) fun pt34 J34 _ et34 ut34 => ?_
    replace S := S.up et34
    replace L := (L.up et34).snoc 34 (SqT.of ut34) rfl (mx34.up et34) (by decide)
    replace mT := mT.up et34
    walk_at "vc"
    refine w_power (n := 47) (m := 5) rfl mT zy bx byy (by decide) (by decide) (by decide) fun px47 I47 ex47 mx47 => ?_
    replace S := S.up ex47
    replace L := L.up ex47
    replace mT := mT.up ex47
    walk_at "vc"
    refine n_tup (by show 2 ≤ 100000; decide) fun pt47 J47 _ et47 ut47 => ?_
    replace S := S.up et47
    replace L := (L.up et47).snoc 47 (SqT.of ut47) rfl (mx47.up et47) (by decide)
    replace mT := mT.up et47
    walk_at "vc"
    refine w_power (n := 60) (m := 5) rfl mT zy bx byy (by decide) (by decide) (by decide) fun px60 I60 ex60 mx60 => ?_
    replace S := S.up ex60
    replace L := L.up ex60
    replace mT := mT.up ex60
    walk_at "vc"
    refine n_tup (by show 2 ≤ 100000; decide) fun pt60 J60 _ et60 ut60 => ?_
    replace S := S.up et60
    replace L := (L.up et60).snoc 60 (SqT.of ut60) rfl (mx60.up et60) (by decide)
    replace mT := mT.up et60
    walk_at "vc"
    refine n_lst (by show 4 ≤ 100000; decide) fun pv2 H11 _ e11 u11 => ?_
    replace S := S.up e11
    replace L := L.up e11
    walk_at "vc"
    refine ⟨pv2, rfl, ⟨_, SqL.of u11⟩, for_list (K := K) (a := pv2) (xs := [.ref pt21, .ref pt34, .ref pt47, .ref pt60]) (fun i σ H12 => H12 = H11 ∧ ∃ v6 v7, σ = [some (.ref a), some (.ref r0), some (.ref p1), some (.ref p2), some (.ref pa), some (.ref pw), v6, v7, some (.ref pz), none]) ⟨rfl, _, _, rfl⟩ (fun i σ H12 _ h => by obtain ⟨rfl, _⟩ := h; exact SqL.of u11) ?_ ?_⟩
    · rintro i y σ H12 hi ⟨rfl, v6, v7, rfl⟩
      obtain ⟨p, m, j, n, rfl, u, rfl, mo, hn⟩ := L y (List.mem_of_getElem? hi)
      refine w_pair u ?_
      walk_at "vc"
      refine w_ixL S.uR rfl ?_
      walk_at "vc"
      refine c_power (m := 5) rfl bx (by decide) (by decide) (by omega) (by omega) ?_
      walk_at "vc"
      refine w_ixL S.uR rfl ?_
      walk_at "vc"
      refine c_power (m := 5) rfl byy (by decide) (by decide) (by omega) (by omega) ?_
      walk_at "vc"
      refine c_holdsD mo (pow_div n) (pow_ne zy n) ((bn_pow bx n).mono (by omega)) ((bn_pow byy n).mono (by omega)) ?_
      walk_at "vc"
      exact ⟨rfl, _, _, rfl⟩
    rintro σ H12 ⟨rfl, v6, v7, rfl⟩
    clear L u11
    walk_at "vc"
    refine ⟨fun σ H13 => H12 = H13 ∧ ∃ s : Int, σ = [some (.ref a), some (.ref r0), some (.ref p1), some (.ref p2), some (.ref pa), some (.ref pw), v6, v7, some (.ref pz), some (.int s)] ∧ (if t1 * d1 < 0 then s = -1 else s = 1), ?_, ?_⟩
    · walk_at "vc"
      refine w_ixT S.u1 rfl ?_
      walk_at "vc"
      refine w_ixT S.u1 rfl ?_
      walk_at "vc"
      refine w_mulW bt1 bd1 (by decide) (by decide) (by decide) ?_
      walk_at "vc"
      refine i_dec (fun z => ?_) (fun z => ?_)
      · walk_at "vc"
        exact ⟨rfl, _, rfl, by rw [if_pos z]⟩
      · walk_at "vc"
        exact ⟨rfl, _, rfl, by rw [if_neg z]⟩
    rintro σ H13 ⟨rfl, sg, rfl, hs⟩
    have bs : Bn 5 sg := by unfold Bn; split at hs <;> subst hs <;> decide
    walk_at "vc"
    refine w_uni S.mA sA fun p14 H14 e14 m14 => ?_
    replace S := S.up e14
    walk_at "vc"
    refine w_ixT S.u1 rfl ?_
    walk_at "vc"
    refine w_ixT S.u1 rfl ?_
    walk_at "vc"
    refine c_holdsD m14 neg_div d10 (bt1.neg.mono (by decide)) (bd1.mono (by decide)) ?_
    walk_at "vc"
    refine w_absO S.mA sA fun p15 H15 e15 m15 => ?_
    replace S := S.up e15
    walk_at "vc"
    refine w_ixT S.u1 rfl ?_
    walk_at "vc"
    refine w_mulW bs bt1 (by decide) (by decide) (by decide) ?_
    walk_at "vc"
    refine w_ixT S.u1 rfl ?_
    walk_at "vc"
    refine c_holdsD m15 (abs_div d10 hs) d10 ((bs.mul bt1).mono (by decide)) (bd1.mono (by decide)) ?_
    walk_at "vc"
    refine w_boolO S.mA sA ?_
    walk_at "vc"
    refine w_ixT S.u1 rfl ?_
    walk_at "vc"
    refine w_eqBT (by rw [decide_eq_decide.mpr (rat_num0 d10)]) ?_
    walk_at "vc"
    refine w_ixT S.u1 rfl ?_
    walk_at "vc"
    refine w_ixT S.u1 rfl ?_
    walk_at "vc"
    exact c_holdsD S.mA rfl d10 (bt1.mono (by decide)) (bd1.mono (by decide)) (q _)
end
end AT
namespace AT
open PySem L2
theorem all_mk {K : PySem.W.Frag} {h : Heap} {mg : Str → Option Value} {fa : Addr} (X : K.In h) (G : h.Ns mainGlobals mg) (hfa : mg "law" = some (.ref fa))
    {C_AnytuneError : Addr}
    {C_NoMoment : Addr}
    {C_Moment : Addr}
    {a_NoMoment___init__ : Addr} {oc_NoMoment___init__ kV_NoMoment___init__ dc_NoMoment___init__ pm_NoMoment___init__ cd_NoMoment___init__ ct_NoMoment___init__ : Value} {od_NoMoment___init__ an_NoMoment___init__ : Option Addr} {sl_NoMoment___init__ : Array (Option Value)}
    {a_common : Addr} {oc_common kV_common dc_common pm_common cd_common ct_common : Value} {od_common an_common : Option Addr} {sl_common : Array (Option Value)}
    {a_Moment___init__ : Addr} {oc_Moment___init__ kV_Moment___init__ dc_Moment___init__ pm_Moment___init__ cd_Moment___init__ ct_Moment___init__ : Value} {od_Moment___init__ an_Moment___init__ : Option Addr} {sl_Moment___init__ : Array (Option Value)}
    {td_Moment___init__ : Addr} {to_Moment___init__ : Obj} {ti_Moment___init__ : List Value} {tn_Moment___init__ : Nat}
    {a_Moment___mul__ : Addr} {oc_Moment___mul__ kV_Moment___mul__ dc_Moment___mul__ pm_Moment___mul__ cd_Moment___mul__ ct_Moment___mul__ : Value} {od_Moment___mul__ an_Moment___mul__ : Option Addr} {sl_Moment___mul__ : Array (Option Value)}
    {a_Moment___rmul__ : Addr} {oc_Moment___rmul__ kV_Moment___rmul__ dc_Moment___rmul__ pm_Moment___rmul__ cd_Moment___rmul__ ct_Moment___rmul__ : Value} {od_Moment___rmul__ an_Moment___rmul__ : Option Addr} {sl_Moment___rmul__ : Array (Option Value)}
    {a_Moment___pow__ : Addr} {oc_Moment___pow__ kV_Moment___pow__ dc_Moment___pow__ pm_Moment___pow__ cd_Moment___pow__ ct_Moment___pow__ : Value} {od_Moment___pow__ an_Moment___pow__ : Option Addr} {sl_Moment___pow__ : Array (Option Value)}
    {a_Moment___neg__ : Addr} {oc_Moment___neg__ kV_Moment___neg__ dc_Moment___neg__ pm_Moment___neg__ cd_Moment___neg__ ct_Moment___neg__ : Value} {od_Moment___neg__ an_Moment___neg__ : Option Addr} {sl_Moment___neg__ : Array (Option Value)}
    {a_Moment___abs__ : Addr} {oc_Moment___abs__ kV_Moment___abs__ dc_Moment___abs__ pm_Moment___abs__ cd_Moment___abs__ ct_Moment___abs__ : Value} {od_Moment___abs__ an_Moment___abs__ : Option Addr} {sl_Moment___abs__ : Array (Option Value)}
    {a_Moment___bool__ : Addr} {oc_Moment___bool__ kV_Moment___bool__ dc_Moment___bool__ pm_Moment___bool__ cd_Moment___bool__ ct_Moment___bool__ : Value} {od_Moment___bool__ an_Moment___bool__ : Option Addr} {sl_Moment___bool__ : Array (Option Value)}
    {a_Moment_over : Addr} {oc_Moment_over kV_Moment_over dc_Moment_over pm_Moment_over cd_Moment_over ct_Moment_over : Value} {od_Moment_over an_Moment_over : Option Addr} {sl_Moment_over : Array (Option Value)}
    {a_as_moment : Addr} {oc_as_moment kV_as_moment dc_as_moment pm_as_moment cd_as_moment ct_as_moment : Value} {od_as_moment an_as_moment : Option Addr} {sl_as_moment : Array (Option Value)}
    {a__law_cell : Addr} {oc__law_cell kV__law_cell dc__law_cell pm__law_cell cd__law_cell ct__law_cell : Value} {od__law_cell an__law_cell : Option Addr} {sl__law_cell : Array (Option Value)}
    {a__law_row : Addr} {oc__law_row kV__law_row dc__law_row pm__law_row cd__law_row ct__law_row : Value} {od__law_row an__law_row : Option Addr} {sl__law_row : Array (Option Value)}
    {a__law_whole : Addr} {oc__law_whole kV__law_whole dc__law_whole pm__law_whole cd__law_whole ct__law_whole : Value} {od__law_whole an__law_whole : Option Addr} {sl__law_whole : Array (Option Value)}
    {a__law_ratio : Addr} {oc__law_ratio kV__law_ratio dc__law_ratio pm__law_ratio cd__law_ratio ct__law_ratio : Value} {od__law_ratio an__law_ratio : Option Addr} {sl__law_ratio : Array (Option Value)}
    {a__law_gcd : Addr} {oc__law_gcd kV__law_gcd dc__law_gcd pm__law_gcd cd__law_gcd ct__law_gcd : Value} {od__law_gcd an__law_gcd : Option Addr} {sl__law_gcd : Array (Option Value)}
    {a__law_is_int : Addr} {oc__law_is_int kV__law_is_int dc__law_is_int pm__law_is_int cd__law_is_int ct__law_is_int : Value} {od__law_is_int an__law_is_int : Option Addr} {sl__law_is_int : Array (Option Value)}
    {a__law_holds : Addr} {oc__law_holds kV__law_holds dc__law_holds pm__law_holds cd__law_holds ct__law_holds : Value} {od__law_holds an__law_holds : Option Addr} {sl__law_holds : Array (Option Value)}
    {a__law_power : Addr} {oc__law_power kV__law_power dc__law_power pm__law_power cd__law_power ct__law_power : Value} {od__law_power an__law_power : Option Addr} {sl__law_power : Array (Option Value)}
    {a__law_quotient : Addr} {oc__law_quotient kV__law_quotient dc__law_quotient pm__law_quotient cd__law_quotient ct__law_quotient : Value} {od__law_quotient an__law_quotient : Option Addr} {sl__law_quotient : Array (Option Value)}
    {a_law : Addr} {oc_law kV_law dc_law pm_law cd_law ct_law : Value} {od_law an_law : Option Addr} {sl_law : Array (Option Value)}
    {nm_NoMoment q_NoMoment : Str} {N_NoMoment : Addr} {bs_NoMoment bm_NoMoment : List Value} {sn_NoMoment : List Str} {sub_NoMoment : List Value} {ab_NoMoment : Bool} {col_NoMoment : Option Bool} {dd_NoMoment : Option Addr} {k0_NoMoment k1_NoMoment k2_NoMoment k3_NoMoment k5_NoMoment : Option Value}
    {fo_mul ro_mul : Option Value}
    {fo_pow ro_pow : Option Value}
    (g_AnytuneError : PySem.W.nsIn K mainGlobals "AnytuneError" = some (some (.ref C_AnytuneError)))
    (g_NoMoment : PySem.W.nsIn K mainGlobals "NoMoment" = some (some (.ref C_NoMoment)))
    (g_Moment : PySem.W.nsIn K mainGlobals "Moment" = some (some (.ref C_Moment)))
    (x_NoMoment___init__ : PySem.W.findIn K (.ref C_NoMoment) "__init__" = some (some (.ref a_NoMoment___init__)))
    (l_NoMoment___init__ : K.lookup a_NoMoment___init__ = some ⟨oc_NoMoment___init__, od_NoMoment___init__, .func (PySem.W.fnOf "__init__" "NoMoment.__init__" (defArgs s_NoMoment___init__) (defBody s_NoMoment___init__) (defScope s_NoMoment___init__) .none kV_NoMoment___init__ dc_NoMoment___init__ pm_NoMoment___init__ an_NoMoment___init__ cd_NoMoment___init__ ct_NoMoment___init__), sl_NoMoment___init__⟩)
    (c_NoMoment___init__ : PySem.W.codeIn K cd_NoMoment___init__ "NoMoment.__init__" = true)
    (p_NoMoment___init__ : PySem.W.keepIn K (.ref a_NoMoment___init__) = true)
    (f_NoMoment___init__ : PySem.W.isFn K (.ref a_NoMoment___init__) = true)
    (g_common : PySem.W.nsIn K mainGlobals "common" = some (some (.ref a_common)))
    (l_common : K.lookup a_common = some ⟨oc_common, od_common, .func (PySem.W.fnOf "common" "common" (defArgs s_common) (defBody s_common) (defScope s_common) .none kV_common dc_common pm_common an_common cd_common ct_common), sl_common⟩)
    (c_common : PySem.W.codeIn K cd_common "common" = true)
    (p_common : PySem.W.keepIn K (.ref a_common) = true)
    (x_Moment___init__ : PySem.W.findIn K (.ref C_Moment) "__init__" = some (some (.ref a_Moment___init__)))
    (l_Moment___init__ : K.lookup a_Moment___init__ = some ⟨oc_Moment___init__, od_Moment___init__, .func (PySem.W.fnOf "__init__" "Moment.__init__" (defArgs s_Moment___init__) (defBody s_Moment___init__) (defScope s_Moment___init__) (.ref td_Moment___init__) kV_Moment___init__ dc_Moment___init__ pm_Moment___init__ an_Moment___init__ cd_Moment___init__ ct_Moment___init__), sl_Moment___init__⟩)
    (c_Moment___init__ : PySem.W.codeIn K cd_Moment___init__ "Moment.__init__" = true)
    (p_Moment___init__ : PySem.W.keepIn K (.ref a_Moment___init__) = true)
    (f_Moment___init__ : PySem.W.isFn K (.ref a_Moment___init__) = true)
    (t_Moment___init__ : K.lookup td_Moment___init__ = some to_Moment___init__)
    (u_Moment___init__ : to_Moment___init__.data = .seq ti_Moment___init__.toArray tn_Moment___init__) (v_Moment___init__ : Vals [.int 1] ti_Moment___init__)
    (x_Moment___mul__ : PySem.W.findIn K (.ref C_Moment) "__mul__" = some (some (.ref a_Moment___mul__)))
    (l_Moment___mul__ : K.lookup a_Moment___mul__ = some ⟨oc_Moment___mul__, od_Moment___mul__, .func (PySem.W.fnOf "__mul__" "Moment.__mul__" (defArgs s_Moment___mul__) (defBody s_Moment___mul__) (defScope s_Moment___mul__) .none kV_Moment___mul__ dc_Moment___mul__ pm_Moment___mul__ an_Moment___mul__ cd_Moment___mul__ ct_Moment___mul__), sl_Moment___mul__⟩)
    (c_Moment___mul__ : PySem.W.codeIn K cd_Moment___mul__ "Moment.__mul__" = true)
    (p_Moment___mul__ : PySem.W.keepIn K (.ref a_Moment___mul__) = true)
    (f_Moment___mul__ : PySem.W.isFn K (.ref a_Moment___mul__) = true)
    (x_Moment___rmul__ : PySem.W.findIn K (.ref C_Moment) "__rmul__" = some (some (.ref a_Moment___rmul__)))
    (l_Moment___rmul__ : K.lookup a_Moment___rmul__ = some ⟨oc_Moment___rmul__, od_Moment___rmul__, .func (PySem.W.fnOf "__rmul__" "Moment.__rmul__" (defArgs s_Moment___rmul__) (defBody s_Moment___rmul__) (defScope s_Moment___rmul__) .none kV_Moment___rmul__ dc_Moment___rmul__ pm_Moment___rmul__ an_Moment___rmul__ cd_Moment___rmul__ ct_Moment___rmul__), sl_Moment___rmul__⟩)
    (c_Moment___rmul__ : PySem.W.codeIn K cd_Moment___rmul__ "Moment.__rmul__" = true)
    (p_Moment___rmul__ : PySem.W.keepIn K (.ref a_Moment___rmul__) = true)
    (f_Moment___rmul__ : PySem.W.isFn K (.ref a_Moment___rmul__) = true)
    (x_Moment___pow__ : PySem.W.findIn K (.ref C_Moment) "__pow__" = some (some (.ref a_Moment___pow__)))
    (l_Moment___pow__ : K.lookup a_Moment___pow__ = some ⟨oc_Moment___pow__, od_Moment___pow__, .func (PySem.W.fnOf "__pow__" "Moment.__pow__" (defArgs s_Moment___pow__) (defBody s_Moment___pow__) (defScope s_Moment___pow__) .none kV_Moment___pow__ dc_Moment___pow__ pm_Moment___pow__ an_Moment___pow__ cd_Moment___pow__ ct_Moment___pow__), sl_Moment___pow__⟩)
    (c_Moment___pow__ : PySem.W.codeIn K cd_Moment___pow__ "Moment.__pow__" = true)
    (p_Moment___pow__ : PySem.W.keepIn K (.ref a_Moment___pow__) = true)
    (f_Moment___pow__ : PySem.W.isFn K (.ref a_Moment___pow__) = true)
    (x_Moment___neg__ : PySem.W.findIn K (.ref C_Moment) "__neg__" = some (some (.ref a_Moment___neg__)))
    (l_Moment___neg__ : K.lookup a_Moment___neg__ = some ⟨oc_Moment___neg__, od_Moment___neg__, .func (PySem.W.fnOf "__neg__" "Moment.__neg__" (defArgs s_Moment___neg__) (defBody s_Moment___neg__) (defScope s_Moment___neg__) .none kV_Moment___neg__ dc_Moment___neg__ pm_Moment___neg__ an_Moment___neg__ cd_Moment___neg__ ct_Moment___neg__), sl_Moment___neg__⟩)
    (c_Moment___neg__ : PySem.W.codeIn K cd_Moment___neg__ "Moment.__neg__" = true)
    (p_Moment___neg__ : PySem.W.keepIn K (.ref a_Moment___neg__) = true)
    (f_Moment___neg__ : PySem.W.isFn K (.ref a_Moment___neg__) = true)
    (x_Moment___abs__ : PySem.W.findIn K (.ref C_Moment) "__abs__" = some (some (.ref a_Moment___abs__)))
    (l_Moment___abs__ : K.lookup a_Moment___abs__ = some ⟨oc_Moment___abs__, od_Moment___abs__, .func (PySem.W.fnOf "__abs__" "Moment.__abs__" (defArgs s_Moment___abs__) (defBody s_Moment___abs__) (defScope s_Moment___abs__) .none kV_Moment___abs__ dc_Moment___abs__ pm_Moment___abs__ an_Moment___abs__ cd_Moment___abs__ ct_Moment___abs__), sl_Moment___abs__⟩)
    (c_Moment___abs__ : PySem.W.codeIn K cd_Moment___abs__ "Moment.__abs__" = true)
    (p_Moment___abs__ : PySem.W.keepIn K (.ref a_Moment___abs__) = true)
    (f_Moment___abs__ : PySem.W.isFn K (.ref a_Moment___abs__) = true)
    (x_Moment___bool__ : PySem.W.findIn K (.ref C_Moment) "__bool__" = some (some (.ref a_Moment___bool__)))
    (l_Moment___bool__ : K.lookup a_Moment___bool__ = some ⟨oc_Moment___bool__, od_Moment___bool__, .func (PySem.W.fnOf "__bool__" "Moment.__bool__" (defArgs s_Moment___bool__) (defBody s_Moment___bool__) (defScope s_Moment___bool__) .none kV_Moment___bool__ dc_Moment___bool__ pm_Moment___bool__ an_Moment___bool__ cd_Moment___bool__ ct_Moment___bool__), sl_Moment___bool__⟩)
    (c_Moment___bool__ : PySem.W.codeIn K cd_Moment___bool__ "Moment.__bool__" = true)
    (p_Moment___bool__ : PySem.W.keepIn K (.ref a_Moment___bool__) = true)
    (f_Moment___bool__ : PySem.W.isFn K (.ref a_Moment___bool__) = true)
    (x_Moment_over : PySem.W.findIn K (.ref C_Moment) "over" = some (some (.ref a_Moment_over)))
    (l_Moment_over : K.lookup a_Moment_over = some ⟨oc_Moment_over, od_Moment_over, .func (PySem.W.fnOf "over" "Moment.over" (defArgs s_Moment_over) (defBody s_Moment_over) (defScope s_Moment_over) .none kV_Moment_over dc_Moment_over pm_Moment_over an_Moment_over cd_Moment_over ct_Moment_over), sl_Moment_over⟩)
    (c_Moment_over : PySem.W.codeIn K cd_Moment_over "Moment.over" = true)
    (p_Moment_over : PySem.W.keepIn K (.ref a_Moment_over) = true)
    (f_Moment_over : PySem.W.isFn K (.ref a_Moment_over) = true)
    (g_as_moment : PySem.W.nsIn K mainGlobals "as_moment" = some (some (.ref a_as_moment)))
    (l_as_moment : K.lookup a_as_moment = some ⟨oc_as_moment, od_as_moment, .func (PySem.W.fnOf "as_moment" "as_moment" (defArgs s_as_moment) (defBody s_as_moment) (defScope s_as_moment) .none kV_as_moment dc_as_moment pm_as_moment an_as_moment cd_as_moment ct_as_moment), sl_as_moment⟩)
    (c_as_moment : PySem.W.codeIn K cd_as_moment "as_moment" = true)
    (p_as_moment : PySem.W.keepIn K (.ref a_as_moment) = true)
    (g__law_cell : PySem.W.nsIn K mainGlobals "_law_cell" = some (some (.ref a__law_cell)))
    (l__law_cell : K.lookup a__law_cell = some ⟨oc__law_cell, od__law_cell, .func (PySem.W.fnOf "_law_cell" "_law_cell" (defArgs s__law_cell) (defBody s__law_cell) (defScope s__law_cell) .none kV__law_cell dc__law_cell pm__law_cell an__law_cell cd__law_cell ct__law_cell), sl__law_cell⟩)
    (c__law_cell : PySem.W.codeIn K cd__law_cell "_law_cell" = true)
    (p__law_cell : PySem.W.keepIn K (.ref a__law_cell) = true)
    (g__law_row : PySem.W.nsIn K mainGlobals "_law_row" = some (some (.ref a__law_row)))
    (l__law_row : K.lookup a__law_row = some ⟨oc__law_row, od__law_row, .func (PySem.W.fnOf "_law_row" "_law_row" (defArgs s__law_row) (defBody s__law_row) (defScope s__law_row) .none kV__law_row dc__law_row pm__law_row an__law_row cd__law_row ct__law_row), sl__law_row⟩)
    (c__law_row : PySem.W.codeIn K cd__law_row "_law_row" = true)
    (p__law_row : PySem.W.keepIn K (.ref a__law_row) = true)
    (g__law_whole : PySem.W.nsIn K mainGlobals "_law_whole" = some (some (.ref a__law_whole)))
    (l__law_whole : K.lookup a__law_whole = some ⟨oc__law_whole, od__law_whole, .func (PySem.W.fnOf "_law_whole" "_law_whole" (defArgs s__law_whole) (defBody s__law_whole) (defScope s__law_whole) .none kV__law_whole dc__law_whole pm__law_whole an__law_whole cd__law_whole ct__law_whole), sl__law_whole⟩)
    (c__law_whole : PySem.W.codeIn K cd__law_whole "_law_whole" = true)
    (p__law_whole : PySem.W.keepIn K (.ref a__law_whole) = true)
    (g__law_ratio : PySem.W.nsIn K mainGlobals "_law_ratio" = some (some (.ref a__law_ratio)))
    (l__law_ratio : K.lookup a__law_ratio = some ⟨oc__law_ratio, od__law_ratio, .func (PySem.W.fnOf "_law_ratio" "_law_ratio" (defArgs s__law_ratio) (defBody s__law_ratio) (defScope s__law_ratio) .none kV__law_ratio dc__law_ratio pm__law_ratio an__law_ratio cd__law_ratio ct__law_ratio), sl__law_ratio⟩)
    (c__law_ratio : PySem.W.codeIn K cd__law_ratio "_law_ratio" = true)
    (p__law_ratio : PySem.W.keepIn K (.ref a__law_ratio) = true)
    (g__law_gcd : PySem.W.nsIn K mainGlobals "_law_gcd" = some (some (.ref a__law_gcd)))
    (l__law_gcd : K.lookup a__law_gcd = some ⟨oc__law_gcd, od__law_gcd, .func (PySem.W.fnOf "_law_gcd" "_law_gcd" (defArgs s__law_gcd) (defBody s__law_gcd) (defScope s__law_gcd) .none kV__law_gcd dc__law_gcd pm__law_gcd an__law_gcd cd__law_gcd ct__law_gcd), sl__law_gcd⟩)
    (c__law_gcd : PySem.W.codeIn K cd__law_gcd "_law_gcd" = true)
    (p__law_gcd : PySem.W.keepIn K (.ref a__law_gcd) = true)
    (g__law_is_int : PySem.W.nsIn K mainGlobals "_law_is_int" = some (some (.ref a__law_is_int)))
    (l__law_is_int : K.lookup a__law_is_int = some ⟨oc__law_is_int, od__law_is_int, .func (PySem.W.fnOf "_law_is_int" "_law_is_int" (defArgs s__law_is_int) (defBody s__law_is_int) (defScope s__law_is_int) .none kV__law_is_int dc__law_is_int pm__law_is_int an__law_is_int cd__law_is_int ct__law_is_int), sl__law_is_int⟩)
    (c__law_is_int : PySem.W.codeIn K cd__law_is_int "_law_is_int" = true)
    (p__law_is_int : PySem.W.keepIn K (.ref a__law_is_int) = true)
    (g__law_holds : PySem.W.nsIn K mainGlobals "_law_holds" = some (some (.ref a__law_holds)))
    (l__law_holds : K.lookup a__law_holds = some ⟨oc__law_holds, od__law_holds, .func (PySem.W.fnOf "_law_holds" "_law_holds" (defArgs s__law_holds) (defBody s__law_holds) (defScope s__law_holds) .none kV__law_holds dc__law_holds pm__law_holds an__law_holds cd__law_holds ct__law_holds), sl__law_holds⟩)
    (c__law_holds : PySem.W.codeIn K cd__law_holds "_law_holds" = true)
    (p__law_holds : PySem.W.keepIn K (.ref a__law_holds) = true)
    (g__law_power : PySem.W.nsIn K mainGlobals "_law_power" = some (some (.ref a__law_power)))
    (l__law_power : K.lookup a__law_power = some ⟨oc__law_power, od__law_power, .func (PySem.W.fnOf "_law_power" "_law_power" (defArgs s__law_power) (defBody s__law_power) (defScope s__law_power) .none kV__law_power dc__law_power pm__law_power an__law_power cd__law_power ct__law_power), sl__law_power⟩)
    (c__law_power : PySem.W.codeIn K cd__law_power "_law_power" = true)
    (p__law_power : PySem.W.keepIn K (.ref a__law_power) = true)
    (g__law_quotient : PySem.W.nsIn K mainGlobals "_law_quotient" = some (some (.ref a__law_quotient)))
    (l__law_quotient : K.lookup a__law_quotient = some ⟨oc__law_quotient, od__law_quotient, .func (PySem.W.fnOf "_law_quotient" "_law_quotient" (defArgs s__law_quotient) (defBody s__law_quotient) (defScope s__law_quotient) .none kV__law_quotient dc__law_quotient pm__law_quotient an__law_quotient cd__law_quotient ct__law_quotient), sl__law_quotient⟩)
    (c__law_quotient : PySem.W.codeIn K cd__law_quotient "_law_quotient" = true)
    (p__law_quotient : PySem.W.keepIn K (.ref a__law_quotient) = true)
    (g_law : PySem.W.nsIn K mainGlobals "law" = some (some (.ref a_law)))
    (l_law : K.lookup a_law = some ⟨oc_law, od_law, .func (PySem.W.fnOf "law" "law" (defArgs s_law) (defBody s_law) (defScope s_law) .none kV_law dc_law pm_law an_law cd_law ct_law), sl_law⟩)
    (c_law : PySem.W.codeIn K cd_law "law" = true)
    (p_law : PySem.W.keepIn K (.ref a_law) = true)
    (r1_AnytuneError : PySem.W.readsIn K C_AnytuneError (.type "type") = true)
    (r2_AnytuneError : PySem.W.specialIn K (.ref C_AnytuneError) "__getattribute__" = some (some (.builtin "type.__getattribute__")))
    (r3_AnytuneError : PySem.W.findCls K (.ref C_AnytuneError) (.type "type") "__init__" = some (.val (.builtin "ValueError.__init__")))
    (o1_NoMoment : K.lookup C_NoMoment = some (excClassObj nm_NoMoment q_NoMoment C_NoMoment N_NoMoment bs_NoMoment bm_NoMoment true sn_NoMoment sub_NoMoment ab_NoMoment col_NoMoment dd_NoMoment k0_NoMoment k1_NoMoment k2_NoMoment k3_NoMoment k5_NoMoment "ValueError.__new__"))
    (o2_NoMoment : PySem.HandSPX.refsVE bm_NoMoment = true)
    (o3_NoMoment : PySem.W.findIn K (.ref C_NoMoment) "__setattr__" = some (some (.builtin "object.__setattr__")))
    (o4_NoMoment : PySem.W.subIn K (.ref C_NoMoment) (.type "BaseException") = some true)
    (o5_NoMoment : PySem.W.typeIn K (.ref C_NoMoment) = some (.type "type"))
    (o6_NoMoment : PySem.W.keepIn K (.ref C_NoMoment) = true)
    (o7_NoMoment : PySem.W.findIn K (.ref C_NoMoment) "__getattribute__" = some (some (.builtin "BaseException.__getattribute__")))
    (o8_NoMoment : PySem.W.findIn K (.ref C_NoMoment) "__getattr__" = some none)
    (o9_NoMoment : PySem.W.hasDictIn K C_NoMoment = true)
    (oA_NoMoment : PySem.W.isClsIn K C_NoMoment = true)
    (oB_NoMoment : PySem.W.subIn K (.ref C_NoMoment) (.ref C_NoMoment) = some true)
    (na_NoMoment_top : PySem.W.findIn K (.ref C_NoMoment) "top" = some none)
    (na_NoMoment_bottom : PySem.W.findIn K (.ref C_NoMoment) "bottom" = some none)
    (y1_Moment : PySem.W.plainGet K C_Moment Str.empty = true)
    (y2_Moment : PySem.W.hasDictIn K C_Moment = true)
    (y3_Moment : PySem.W.plainOver K C_Moment = true)
    (y4_Moment : PySem.W.findIn K (.ref C_Moment) "__setattr__" = some (some (.builtin "object.__setattr__")))
    (y5_Moment : PySem.W.selfFirst K C_Moment = true)
    (y6_Moment : PySem.W.subIn K (.ref C_Moment) (.type "int") = some false)
    (y7_Moment : PySem.W.mroIn K C_Moment (.type "object") = some true)
    (y8_Moment : PySem.W.findIn K (.ref C_Moment) "__class__" = some (some (.builtin "object.__class__")))
    (y9_Moment : PySem.W.specialIn K (.builtin "object.__class__") "__get__" = some (some (.builtin "getset_descriptor.__get__")))
    (yA_Moment : PySem.W.takesIn K (.builtin "object.__class__") = some true)
    (yB_Moment : PySem.W.isClsIn K C_Moment = true)
    (yC_Moment : PySem.W.typeIn K (.ref C_Moment) = some (.type "type"))
    (yD_Moment : PySem.W.keepIn K (.ref C_Moment) = true)
    (yE_Moment : PySem.W.makesIn K C_Moment = true)
    (na_Moment_top : PySem.W.findIn K (.ref C_Moment) "top" = some none)
    (na_Moment_bottom : PySem.W.findIn K (.ref C_Moment) "bottom" = some none)
    (z_Moment_int : PySem.W.subIn K (.type "int") (.ref C_Moment) = some false)
    (z_Moment_str : PySem.W.subIn K (.type "str") (.ref C_Moment) = some false)
    (z_Moment_list : PySem.W.subIn K (.type "list") (.ref C_Moment) = some false)
    (z_Moment_tuple : PySem.W.subIn K (.type "tuple") (.ref C_Moment) = some false)
    (z_Moment_NoneType : PySem.W.subIn K (.type "NoneType") (.ref C_Moment) = some false)
    (z_Moment_bool : PySem.W.subIn K (.type "bool") (.ref C_Moment) = some false)
    (ne_Moment : PySem.W.findIn K (.ref C_Moment) "__ne__" = some (some (.builtin "object.__ne__")))
    (fo1_mul : PySem.W.findIn K (.type "int") "__mul__" = some fo_mul)
    (fo2_mul : PySem.W.findIn K (.type "int") "__rmul__" = some ro_mul)
    (fo1_pow : PySem.W.findIn K (.type "int") "__pow__" = some fo_pow)
    (fo2_pow : PySem.W.findIn K (.type "int") "__rpow__" = some ro_pow)
    (fo3_pow : PySem.W.findIn K (.ref C_Moment) "__rpow__" = some none)
    (n_abs : PySem.W.nsIn K mainGlobals "abs" = some none)
    (n_isinstance : PySem.W.nsIn K mainGlobals "isinstance" = some none)
    (n_int : PySem.W.nsIn K mainGlobals "int" = some none)
    (n_range : PySem.W.nsIn K mainGlobals "range" = some none)
    (n_bool : PySem.W.nsIn K mainGlobals "bool" = some none)
    (n_ZeroDivisionError : PySem.W.nsIn K mainGlobals "ZeroDivisionError" = some none)
    (n_len : PySem.W.nsIn K mainGlobals "len" = some none) :
    ∃ T : Tx K mg, T.a_law = fa := by
  have e := hfa.symm.trans (PySem.W.mg_of X G g_law)
  cases e
  exact ⟨⟨_,
    _,
    (fun_mk (st := s_NoMoment___init__) l_NoMoment___init__ c_NoMoment___init__ p_NoMoment___init__),
    _,
    _,
    (fun_mk (st := s_common) l_common c_common p_common),
    (PySem.W.mg_of X G g_common),
    _,
    _,
    ⟨⟨_, _, _, _, _, _, _, _, _, _, rfl, l_Moment___init__, c_Moment___init__, .inr ⟨by simp, td_Moment___init__, to_Moment___init__, ti_Moment___init__, tn_Moment___init__, rfl, t_Moment___init__, u_Moment___init__, v_Moment___init__⟩, .inl rfl⟩, p_Moment___init__⟩,
    _,
    _,
    (fun_mk (st := s_Moment___mul__) l_Moment___mul__ c_Moment___mul__ p_Moment___mul__),
    _,
    _,
    (fun_mk (st := s_Moment___rmul__) l_Moment___rmul__ c_Moment___rmul__ p_Moment___rmul__),
    _,
    _,
    (fun_mk (st := s_Moment___pow__) l_Moment___pow__ c_Moment___pow__ p_Moment___pow__),
    _,
    _,
    (fun_mk (st := s_Moment___neg__) l_Moment___neg__ c_Moment___neg__ p_Moment___neg__),
    _,
    _,
    (fun_mk (st := s_Moment___abs__) l_Moment___abs__ c_Moment___abs__ p_Moment___abs__),
    _,
    _,
    (fun_mk (st := s_Moment___bool__) l_Moment___bool__ c_Moment___bool__ p_Moment___bool__),
    _,
    _,
    (fun_mk (st := s_Moment_over) l_Moment_over c_Moment_over p_Moment_over),
    _,
    _,
    (fun_mk (st := s_as_moment) l_as_moment c_as_moment p_as_moment),
    (PySem.W.mg_of X G g_as_moment),
    _,
    _,
    (fun_mk (st := s__law_cell) l__law_cell c__law_cell p__law_cell),
    (PySem.W.mg_of X G g__law_cell),
    _,
    _,
    (fun_mk (st := s__law_row) l__law_row c__law_row p__law_row),
    (PySem.W.mg_of X G g__law_row),
    _,
    _,
    (fun_mk (st := s__law_whole) l__law_whole c__law_whole p__law_whole),
    (PySem.W.mg_of X G g__law_whole),
    _,
    _,
    (fun_mk (st := s__law_ratio) l__law_ratio c__law_ratio p__law_ratio),
    (PySem.W.mg_of X G g__law_ratio),
    _,
    _,
    (fun_mk (st := s__law_gcd) l__law_gcd c__law_gcd p__law_gcd),
    (PySem.W.mg_of X G g__law_gcd),
    _,
    _,
    (fun_mk (st := s__law_is_int) l__law_is_int c__law_is_int p__law_is_int),
    (PySem.W.mg_of X G g__law_is_int),
    _,
    _,
    (fun_mk (st := s__law_holds) l__law_holds c__law_holds p__law_holds),
    (PySem.W.mg_of X G g__law_holds),
    _,
    _,
    (fun_mk (st := s__law_power) l__law_power c__law_power p__law_power),
    (PySem.W.mg_of X G g__law_power),
    _,
    _,
    (fun_mk (st := s__law_quotient) l__law_quotient c__law_quotient p__law_quotient),
    (PySem.W.mg_of X G g__law_quotient),
    _,
    _,
    (fun_mk (st := s_law) l_law c_law p_law),
    (PySem.W.mg_of X G g_law),
    C_AnytuneError,
    (PySem.W.mg_of X G g_AnytuneError),
    ⟨r1_AnytuneError, r2_AnytuneError⟩,
    r3_AnytuneError,
    C_NoMoment,
    (PySem.W.mg_of X G g_NoMoment),
    ⟨⟨_, _, _, _, _, _, _, _, _, _, _, _, _, _, _, o1_NoMoment, o2_NoMoment⟩, o3_NoMoment, o4_NoMoment, o5_NoMoment, o6_NoMoment⟩,
    ⟨o7_NoMoment, o8_NoMoment, o4_NoMoment, o9_NoMoment⟩,
    (exm_own o4_NoMoment oA_NoMoment o5_NoMoment oB_NoMoment),
    na_NoMoment_top,
    na_NoMoment_bottom,
    C_Moment,
    (PySem.W.mg_of X G g_Moment),
    ⟨⟨y1_Moment, y2_Moment, y3_Moment, y4_Moment⟩, y5_Moment, y6_Moment, y7_Moment, y8_Moment, y9_Moment, yA_Moment⟩,
    yB_Moment,
    yC_Moment,
    yD_Moment,
    yE_Moment,
    na_Moment_top,
    na_Moment_bottom,
    z_Moment_int,
    z_Moment_str,
    z_Moment_list,
    z_Moment_tuple,
    z_Moment_NoneType,
    z_Moment_bool,
    ne_Moment,
    ⟨dn_mul.symm ▸ ⟨x_Moment___mul__, f_Moment___mul__⟩, .inr (dr_mul.symm ▸ ⟨x_Moment___rmul__, f_Moment___rmul__⟩), ⟨_, dn_mul.symm ▸ fo1_mul⟩, ⟨_, dr_mul.symm ▸ fo2_mul⟩, z_Moment_int⟩,
    (dr_mul.symm ▸ ⟨x_Moment___rmul__, f_Moment___rmul__⟩),
    ⟨dn_pow.symm ▸ ⟨x_Moment___pow__, f_Moment___pow__⟩, .inl (dr_pow.symm ▸ fo3_pow), ⟨_, dn_pow.symm ▸ fo1_pow⟩, ⟨_, dr_pow.symm ▸ fo2_pow⟩, z_Moment_int⟩,
    ⟨x_NoMoment___init__, f_NoMoment___init__⟩,
    ⟨x_Moment___init__, f_Moment___init__⟩,
    ⟨x_Moment___mul__, f_Moment___mul__⟩,
    ⟨x_Moment___rmul__, f_Moment___rmul__⟩,
    ⟨x_Moment___pow__, f_Moment___pow__⟩,
    ⟨x_Moment___neg__, f_Moment___neg__⟩,
    ⟨x_Moment___abs__, f_Moment___abs__⟩,
    ⟨x_Moment___bool__, f_Moment___bool__⟩,
    ⟨x_Moment_over, f_Moment_over⟩,
    (PySem.W.mg_none_of X G n_abs),
    (PySem.W.mg_none_of X G n_isinstance),
    (PySem.W.mg_none_of X G n_int),
    (PySem.W.mg_none_of X G n_range),
    (PySem.W.mg_none_of X G n_bool),
    (PySem.W.mg_none_of X G n_ZeroDivisionError),
    (PySem.W.mg_none_of X G n_len)⟩, rfl⟩
theorem walk {l : PySem.W.OpenLaw} {pr : Program} {loose : List Str} {XP : (Str → Option Value) → Heap → Prop} {YP : World → Heap → Prop} {d : DefRec} {K : Params → PySem.W.Frag} (hn : l.most = some 63) (hdf : d.params.defaults = [])
    (hY : ∀ (w : World) (h : Heap), YP w h → (K w.params).In h)
    (F : ∀ (w : World) (mg : Str → Option Value) (fa : Addr) (h : Heap), (K w.params).In h → h.Ns mainGlobals mg → mg d.name = some (.ref fa) → ∃ T : Tx (K w.params) mg, T.a_law = fa) :
    PySem.W.WalkO pr loose XP YP l.row.toRowW d [] (fun f vs => PySem.call f vs) :=
  L2.walk_of (n := 63) (k := 11) (x := "_law_script") (CX := fun _ => CX0) (sp := fun w => spLaw (K w.params)) hn (by decide) hdf ⟨rfl, by decide, by decide⟩ hY
    (fun w mg fa h KX G hmg => by
      obtain ⟨T, rfl⟩ := F w mg fa h KX G hmg
      exact ⟨T.d_law, fun s v => by
        obtain ⟨oc, od, kV, doc, pm, an, cdv, ct, osl, e, _⟩ := T.F_law.ex
        rw [e]
        exact .of_eq rfl, fun base _ _ => ok_law T⟩)
    (fun _ _ a ns hl _ hS => ⟨a, ns, rfl, hS, hl, fun _ => rfl⟩) fun _ _ _ _ _ z => z
end AT
open PySem PySem.W PyProof.Rows
set_option maxRecDepth 100000 in
set_option maxHeartbeats 0 in
theorem PySem.Challenge.cw_anytune_k06_powers_and_quotients_holds : PySem.Challenge.rw_anytune_k06_powers_and_quotients.Holds := by
  w_on; o_law; k_head; (case hw => w_witness2)
  k_fill
  refine AT.walk (l := PySem.Challenge.rw_anytune_k06_powers_and_quotients) rfl rfl (fun w h Y => PySem.W.kIn_of Y) ?F
  case F =>
    intro w mg fa h KX G hmg
    refine' AT.all_mk KX G hmg ?g_AnytuneError ?g_NoMoment ?g_Moment ?x_NoMoment___init__ ?l_NoMoment___init__ ?c_NoMoment___init__ ?p_NoMoment___init__ ?f_NoMoment___init__ ?g_common ?l_common ?c_common ?p_common ?x_Moment___init__ ?l_Moment___init__ ?c_Moment___init__ ?p_Moment___init__ ?f_Moment___init__ ?t_Moment___init__ ?u_Moment___init__ ?v_Moment___init__ ?x_Moment___mul__ ?l_Moment___mul__ ?c_Moment___mul__ ?p_Moment___mul__ ?f_Moment___mul__ ?x_Moment___rmul__ ?l_Moment___rmul__ ?c_Moment___rmul__ ?p_Moment___rmul__ ?f_Moment___rmul__ ?x_Moment___pow__ ?l_Moment___pow__ ?c_Moment___pow__ ?p_Moment___pow__ ?f_Moment___pow__ ?x_Moment___neg__ ?l_Moment___neg__ ?c_Moment___neg__ ?p_Moment___neg__ ?f_Moment___neg__ ?x_Moment___abs__ ?l_Moment___abs__ ?c_Moment___abs__ ?p_Moment___abs__ ?f_Moment___abs__ ?x_Moment___bool__ ?l_Moment___bool__ ?c_Moment___bool__ ?p_Moment___bool__ ?f_Moment___bool__ ?x_Moment_over ?l_Moment_over ?c_Moment_over ?p_Moment_over ?f_Moment_over ?g_as_moment ?l_as_moment ?c_as_moment ?p_as_moment ?g__law_cell ?l__law_cell ?c__law_cell ?p__law_cell ?g__law_row ?l__law_row ?c__law_row ?p__law_row ?g__law_whole ?l__law_whole ?c__law_whole ?p__law_whole ?g__law_ratio ?l__law_ratio ?c__law_ratio ?p__law_ratio ?g__law_gcd ?l__law_gcd ?c__law_gcd ?p__law_gcd ?g__law_is_int ?l__law_is_int ?c__law_is_int ?p__law_is_int ?g__law_holds ?l__law_holds ?c__law_holds ?p__law_holds ?g__law_power ?l__law_power ?c__law_power ?p__law_power ?g__law_quotient ?l__law_quotient ?c__law_quotient ?p__law_quotient ?g_law ?l_law ?c_law ?p_law ?r1_AnytuneError ?r2_AnytuneError ?r3_AnytuneError ?o1_NoMoment ?o2_NoMoment ?o3_NoMoment ?o4_NoMoment ?o5_NoMoment ?o6_NoMoment ?o7_NoMoment ?o8_NoMoment ?o9_NoMoment ?oA_NoMoment ?oB_NoMoment ?na_NoMoment_top ?na_NoMoment_bottom ?y1_Moment ?y2_Moment ?y3_Moment ?y4_Moment ?y5_Moment ?y6_Moment ?y7_Moment ?y8_Moment ?y9_Moment ?yA_Moment ?yB_Moment ?yC_Moment ?yD_Moment ?yE_Moment ?na_Moment_top ?na_Moment_bottom ?z_Moment_int ?z_Moment_str ?z_Moment_list ?z_Moment_tuple ?z_Moment_NoneType ?z_Moment_bool ?ne_Moment ?fo1_mul ?fo2_mul ?fo1_pow ?fo2_pow ?fo3_pow ?n_abs ?n_isinstance ?n_int ?n_range ?n_bool ?n_ZeroDivisionError ?n_len
    (case g_AnytuneError => k_is)
    (case g_NoMoment => k_is)
    (case g_Moment => k_is)
    (case x_NoMoment___init__ => k_is)
    (case l_NoMoment___init__ => k_is)
    (case c_NoMoment___init__ => k_is)
    (case p_NoMoment___init__ => k_is)
    (case f_NoMoment___init__ => k_is)
    (case g_common => k_is)
    (case l_common => k_is)
    (case c_common => k_is)
    (case p_common => k_is)
    (case x_Moment___init__ => k_is)
    (case l_Moment___init__ => k_is)
    (case c_Moment___init__ => k_is)
    (case p_Moment___init__ => k_is)
    (case f_Moment___init__ => k_is)
    (case t_Moment___init__ => k_is)
    (case u_Moment___init__ => exact rfl)
    (case v_Moment___init__ => exact (.cons ⟨_, rfl⟩ .nil))
    (case x_Moment___mul__ => k_is)
    (case l_Moment___mul__ => k_is)
    (case c_Moment___mul__ => k_is)
    (case p_Moment___mul__ => k_is)
    (case f_Moment___mul__ => k_is)
    (case x_Moment___rmul__ => k_is)
    (case l_Moment___rmul__ => k_is)
    (case c_Moment___rmul__ => k_is)
    (case p_Moment___rmul__ => k_is)
    (case f_Moment___rmul__ => k_is)
    (case x_Moment___pow__ => k_is)
    (case l_Moment___pow__ => k_is)
    (case c_Moment___pow__ => k_is)
    (case p_Moment___pow__ => k_is)
    (case f_Moment___pow__ => k_is)
    (case x_Moment___neg__ => k_is)
    (case l_Moment___neg__ => k_is)
    (case c_Moment___neg__ => k_is)
    (case p_Moment___neg__ => k_is)
    (case f_Moment___neg__ => k_is)
    (case x_Moment___abs__ => k_is)
    (case l_Moment___abs__ => k_is)
    (case c_Moment___abs__ => k_is)
    (case p_Moment___abs__ => k_is)
    (case f_Moment___abs__ => k_is)
    (case x_Moment___bool__ => k_is)
    (case l_Moment___bool__ => k_is)
    (case c_Moment___bool__ => k_is)
    (case p_Moment___bool__ => k_is)
    (case f_Moment___bool__ => k_is)
    (case x_Moment_over => k_is)
    (case l_Moment_over => k_is)
    (case c_Moment_over => k_is)
    (case p_Moment_over => k_is)
    (case f_Moment_over => k_is)
    (case g_as_moment => k_is)
    (case l_as_moment => k_is)
    (case c_as_moment => k_is)
    (case p_as_moment => k_is)
    (case g__law_cell => k_is)
    (case l__law_cell => k_is)
    (case c__law_cell => k_is)
    (case p__law_cell => k_is)
    (case g__law_row => k_is)
    (case l__law_row => k_is)
    (case c__law_row => k_is)
    (case p__law_row => k_is)
    (case g__law_whole => k_is)
    (case l__law_whole => k_is)
    (case c__law_whole => k_is)
    (case p__law_whole => k_is)
    (case g__law_ratio => k_is)
    (case l__law_ratio => k_is)
    (case c__law_ratio => k_is)
    (case p__law_ratio => k_is)
    (case g__law_gcd => k_is)
    (case l__law_gcd => k_is)
    (case c__law_gcd => k_is)
    (case p__law_gcd => k_is)
    (case g__law_is_int => k_is)
    (case l__law_is_int => k_is)
    (case c__law_is_int => k_is)
    (case p__law_is_int => k_is)
    (case g__law_holds => k_is)
    (case l__law_holds => k_is)
    (case c__law_holds => k_is)
    (case p__law_holds => k_is)
    (case g__law_power => k_is)
    (case l__law_power => k_is)
    (case c__law_power => k_is)
    (case p__law_power => k_is)
    (case g__law_quotient => k_is)
    (case l__law_quotient => k_is)
    (case c__law_quotient => k_is)
    (case p__law_quotient => k_is)
    (case g_law => k_is)
    (case l_law => k_is)
    (case c_law => k_is)
    (case p_law => k_is)
    (case r1_AnytuneError => k_is)
    (case r2_AnytuneError => k_is)
    (case r3_AnytuneError => k_is)
    (case o1_NoMoment => k_is)
    (case o2_NoMoment => decide +kernel)
    (case o3_NoMoment => k_is)
    (case o4_NoMoment => k_is)
    (case o5_NoMoment => k_is)
    (case o6_NoMoment => k_is)
    (case o7_NoMoment => k_is)
    (case o8_NoMoment => k_is)
    (case o9_NoMoment => k_is)
    (case oA_NoMoment => k_is)
    (case oB_NoMoment => k_is)
    (case na_NoMoment_top => k_is)
    (case na_NoMoment_bottom => k_is)
    (case y1_Moment => k_is)
    (case y2_Moment => k_is)
    (case y3_Moment => k_is)
    (case y4_Moment => k_is)
    (case y5_Moment => k_is)
    (case y6_Moment => k_is)
    (case y7_Moment => k_is)
    (case y8_Moment => k_is)
    (case y9_Moment => k_is)
    (case yA_Moment => k_is)
    (case yB_Moment => k_is)
    (case yC_Moment => k_is)
    (case yD_Moment => k_is)
    (case yE_Moment => k_is)
    (case na_Moment_top => k_is)
    (case na_Moment_bottom => k_is)
    (case z_Moment_int => k_is)
    (case z_Moment_str => k_is)
    (case z_Moment_list => k_is)
    (case z_Moment_tuple => k_is)
    (case z_Moment_NoneType => k_is)
    (case z_Moment_bool => k_is)
    (case ne_Moment => k_is)
    (case fo1_mul => k_is)
    (case fo2_mul => k_is)
    (case fo1_pow => k_is)
    (case fo2_pow => k_is)
    (case fo3_pow => k_is)
    (case n_abs => k_is)
    (case n_isinstance => k_is)
    (case n_int => k_is)
    (case n_range => k_is)
    (case n_bool => k_is)
    (case n_ZeroDivisionError => k_is)
    (case n_len => k_is)
#print axioms PySem.Challenge.cw_anytune_k06_powers_and_quotients_holds
