import PyProof.Rows.All
import Wide.All
import OpenK.AllK
import Wide.FinOn
import HandS.ForSpec
import HandS.IsInst
import HandS.Wide
import HandS.ExcInit
import HandS.ClsMeth
import PyProof.InstNe
import PyProof.StrReplace2
import HandS.SlotsOwn
import HandS.ExcBuiltin
import HandS.RaiseOp
import PyProof.AutoIntOpsIf
import HandS.Defaults
import HandS.ExcField
import HandS.Steps
import HandS.Evl
import PyProof.Rows.Range3
import PyProof.Conv_bool
import HandS.ExcIs
import KE.KExcIs
import HandS.ExcValue
import HandS.MakeKwOnly
import HandS.OwnEq
import HandS.Codes
import HandS.Text
import HandS.FStr
import HandS.Iter
import KE.KCallOwn
import KE.IntTextLaws
import HandS.Property
import HandS.Star
import HandS.DictComp
import HandS.More
import HandS.Sort
import HandS.RaiseMore
import HandS.HeadEnd
import HandS.Head0
import HandS.Head1
import HandS.Head2
import HandS.HeadHook1
import HandS.HeadHook2
import HandS.HeadHook3
import PySem.Challenge.RW_anytune_k15_names_of_holes
set_option Elab.async false
set_option maxRecDepth 100000
set_option maxHeartbeats 4000000
set_option linter.all false
section
/-! Operators of an own class, over the hand layer. -/
namespace AT
open PySem PySem.Spec PyProof.Rows L2
open AutoSeq1 (wpAny_loadPart')

/-- an object that is no int within -/
def NoPrim (o : Obj) : Prop := ∀ v, o.data ≠ .prim v
theorem noprim_inst {C dx : Addr} : NoPrim (PySem.W.instObj C dx) := fun v e => by cases e

def HasObj (x : Addr) (s : Shared) : Prop := ∃ C dx, s.heap.get? x = some (PySem.W.instObj C dx)

theorem decl_add (a : Int) (t : Tok) (x : Addr) : GivesAt (HasObj x) (Builtin.«int.__add__» ⟨[.int a t, .ref x], []⟩) (.val .notImplemented) := by
  intro prog w A R s hP hq
  obtain ⟨C, dx, hx⟩ := hP
  obtain ⟨hp, g, d, tk, os⟩ := s
  wp_walk using wpAny_loadPart' hx
  exact hq
theorem decl_sub (a : Int) (t : Tok) (x : Addr) : GivesAt (HasObj x) (Builtin.«int.__sub__» ⟨[.int a t, .ref x], []⟩) (.val .notImplemented) := by
  intro prog w A R s hP hq
  obtain ⟨C, dx, hx⟩ := hP
  obtain ⟨hp, g, d, tk, os⟩ := s
  wp_walk using wpAny_loadPart' hx
  exact hq
theorem decl_mul (a : Int) (t : Tok) (x : Addr) : GivesAt (HasObj x) (Builtin.«int.__mul__» ⟨[.int a t, .ref x], []⟩) (.val .notImplemented) := by
  intro prog w A R s hP hq
  obtain ⟨C, dx, hx⟩ := hP
  obtain ⟨hp, g, d, tk, os⟩ := s
  wp_walk using wpAny_loadPart' hx
  exact hq
theorem decl_floordiv (a : Int) (t : Tok) (x : Addr) : GivesAt (HasObj x) (Builtin.«int.__floordiv__» ⟨[.int a t, .ref x], []⟩) (.val .notImplemented) := by
  intro prog w A R s hP hq
  obtain ⟨C, dx, hx⟩ := hP
  obtain ⟨hp, g, d, tk, os⟩ := s
  wp_walk using wpAny_loadPart' hx
  exact hq
theorem decl_mod (a : Int) (t : Tok) (x : Addr) : GivesAt (HasObj x) (Builtin.«int.__mod__» ⟨[.int a t, .ref x], []⟩) (.val .notImplemented) := by
  intro prog w A R s hP hq
  obtain ⟨C, dx, hx⟩ := hP
  obtain ⟨hp, g, d, tk, os⟩ := s
  wp_walk using wpAny_loadPart' hx
  exact hq
theorem decl_lt (a : Int) (t : Tok) (x : Addr) : GivesAt (HasObj x) (Builtin.«int.__lt__» ⟨[.int a t, .ref x], []⟩) (.val .notImplemented) := by
  intro prog w A R s hP hq
  obtain ⟨C, dx, hx⟩ := hP
  obtain ⟨hp, g, d, tk, os⟩ := s
  wp_walk using wpAny_loadPart' hx
  exact hq
theorem decl_le (a : Int) (t : Tok) (x : Addr) : GivesAt (HasObj x) (Builtin.«int.__le__» ⟨[.int a t, .ref x], []⟩) (.val .notImplemented) := by
  intro prog w A R s hP hq
  obtain ⟨C, dx, hx⟩ := hP
  obtain ⟨hp, g, d, tk, os⟩ := s
  wp_walk using wpAny_loadPart' hx
  exact hq
theorem decl_gt (a : Int) (t : Tok) (x : Addr) : GivesAt (HasObj x) (Builtin.«int.__gt__» ⟨[.int a t, .ref x], []⟩) (.val .notImplemented) := by
  intro prog w A R s hP hq
  obtain ⟨C, dx, hx⟩ := hP
  obtain ⟨hp, g, d, tk, os⟩ := s
  wp_walk using wpAny_loadPart' hx
  exact hq
theorem decl_ge (a : Int) (t : Tok) (x : Addr) : GivesAt (HasObj x) (Builtin.«int.__ge__» ⟨[.int a t, .ref x], []⟩) (.val .notImplemented) := by
  intro prog w A R s hP hq
  obtain ⟨C, dx, hx⟩ := hP
  obtain ⟨hp, g, d, tk, os⟩ := s
  wp_walk using wpAny_loadPart' hx
  exact hq
theorem decl_eq (a : Int) (t : Tok) (x : Addr) : GivesAt (HasObj x) (Builtin.«int.__eq__» ⟨[.int a t, .ref x], []⟩) (.val .notImplemented) := by
  intro prog w A R s hP hq
  obtain ⟨C, dx, hx⟩ := hP
  obtain ⟨hp, g, d, tk, os⟩ := s
  wp_walk using wpAny_loadPart' hx
  exact hq
theorem decl_ne (a : Int) (t : Tok) (x : Addr) : GivesAt (HasObj x) (Builtin.«int.__ne__» ⟨[.int a t, .ref x], []⟩) (.val .notImplemented) := by
  intro prog w A R s hP hq
  obtain ⟨C, dx, hx⟩ := hP
  obtain ⟨hp, g, d, tk, os⟩ := s
  wp_walk using wpAny_loadPart' hx
  exact hq

section
variable {prog : Program} {w : World} {A : Around} {E : Value → Shared → Prop} {s : Shared} {K : PySem.W.Frag} {x C L f : Addr} {h₀ : Heap} {m : Str → Option Value} {ox : Obj} {od : Option Obj}
open PySem.W

/-- x op y, two instances of one class -/
theorem bin_same {op : Operator} {y : Addr} {oy : Obj} {od' : Option Obj} {Q : Value → Shared → Prop} (X : K.In s.heap) (I : InstAt s.heap x ox C od) (J : InstAt s.heap y oy C od') (hc : selfFirst K C = true)
    (hs : findIn K (.ref C) (PySem.dunder op.info.2) = some (some (.ref f))) (hf : isFn K (.ref f) = true)
    (h : wpAny (model prog w) A (call (.ref f) [.ref x, .ref y]) (PySem.W.CmpBack Q) E s) : wpAny (model prog w) A (binaryOp op (.ref x) (.ref y)) Q E s := by
  obtain ⟨cd, rest, hcd, hm⟩ := ksp_first hc
  rcases hi : op.info with ⟨sym, nm'⟩
  rw [hi] at hs
  dsimp only at hs
  have one := ksp_try X I hs hf h
  obtain ⟨hh, g, d, tt, os⟩ := s
  have L1 : Looks (model prog w) hh (typeOf (.ref x)) (.ref C) := I.type
  have L2 : Looks (model prog w) hh (typeOf (.ref y)) (.ref C) := J.type
  have L3 : Looks (model prog w) hh (fillsNumberSlot (.ref C) nm') true := fills_K X hcd hm hs
  simp only [binaryOp, hi]
  refine wpAny_holding (wpAny_bind ?_)
  unfold binaryOp1
  refine wpAny_bind (L1.at (wpAny_bind (L2.at (wpAny_bind (L3.at ?_)))))
  simp only [beq_self_eq_true, if_true]
  ksp_lk
  refine wpAny_mono one (fun r s' hr' => ?_) fun _ _ e => e
  obtain ⟨v, rfl, hq⟩ := hr'
  ksp_lk
  exact hq

/-- int op y, y an instance with the reflected method -/
theorem bin_refl {op : Operator} {i : Int} {t : Tok} {id : String} {B : Builtin} {dx : Addr} {Q : Value → Shared → Prop} (X : K.In s.heap) (I : InstAt s.heap x (instObj C dx) C od) (hc : selfFirst K C = true)
    (hl : findIn K (.ref C) (PySem.dunder op.info.2) = some (some (.ref L))) (hs : findIn K (.ref C) (dunderR op.info.2) = some (some (.ref f))) (hf : isFn K (.ref f) = true)
    (hsub : subIn K (.ref C) (.type "int") = some false) (hfi : fillsNumberSlot (.type "int") op.info.2 = pure true)
    (slot : Slot "int" (PySem.dunder op.info.2) id) (entry : entryFor table id = some B) (args : argsOk id ⟨[.int i t, .ref x], []⟩) (dec : GivesAt (HasObj x) (B ⟨[.int i t, .ref x], []⟩) (.val .notImplemented))
    (h : wpAny (model prog w) A (call (.ref f) [.ref x, .int i t]) (PySem.W.CmpBack Q) E s) : wpAny (model prog w) A (binaryOp op (.int i t) (.ref x)) Q E s := by
  obtain ⟨cd, rest, hcd, hm⟩ := ksp_first hc
  have hx : HasObj x s := ⟨C, dx, I.at_⟩
  rcases hi : op.info with ⟨sym, nm'⟩
  rw [hi] at hs hl hfi slot
  dsimp only at hs hl hfi slot
  have one := ksp_try X I hs hf h
  have two : ∀ {Q' : Option Value → Shared → Prop}, Q' none s → wpAny (model prog w) A (tryMethod (.int i t) (PySem.dunder nm') (.ref x)) Q' E s := fun q =>
    wpAny_tryMethod_declines (typeIs_int s i t) slot (call_givesAt slot (typeIs_int s i t) entry args dec hx ⟨rfl, q⟩)
  obtain ⟨hh, g, d, tt, os⟩ := s
  have L1 : Looks (model prog w) hh (typeOf (.int i t)) (.type "int") := Looks.of_pure rfl
  have L2 : Looks (model prog w) hh (typeOf (.ref x)) (.ref C) := I.type
  have L3 : Looks (model prog w) hh (fillsNumberSlot (.type "int") nm') true := Looks.of_pure hfi
  have L4 : Looks (model prog w) hh (fillsNumberSlot (.ref C) nm') true := fills_K X hcd hm hl
  have L5 : Looks (model prog w) hh (isSubtype (.ref C) (.type "int")) false := looks_subIn X hsub
  have hne : (Value.type "int" == Value.ref C) = false := Bool.eq_false_iff.mpr fun q => by cases beq_iff_eq.mp q
  have hpy : numberSlotInPython (.type "int") nm' = pure false := rfl
  simp only [binaryOp, hi]
  refine wpAny_holding (wpAny_bind ?_)
  unfold binaryOp1
  refine wpAny_bind (L1.at (wpAny_bind (L2.at (wpAny_bind (L3.at ?_)))))
  simp only [hne, Bool.false_eq_true, if_false]
  refine wpAny_bind (L4.at ?_)
  simp only [Bool.and_self, if_true]
  refine wpAny_bind (L5.at ?_)
  simp only [Bool.false_eq_true, if_false, pure_bind, Bool.not_false, Bool.and_self, if_true, hpy]
  refine wpAny_bind (two ?_)
  refine wpAny_bind (wpAny_mono one (fun r s' hr' => ?_) fun _ _ e => e)
  obtain ⟨v, rfl, hq⟩ := hr'
  ksp_lk
  exact hq
end
end AT

end

section
namespace AT
open PySem PySem.Spec PyProof.Rows L2
open AutoSeq1 (wpAny_loadPart')
section
variable {prog : Program} {w : World} {A : Around} {E : Value → Shared → Prop} {s : Shared} {K : PySem.W.Frag} {x C L f : Addr} {h₀ : Heap} {m : Str → Option Value} {ox : Obj} {od : Option Obj} {b : Value}
open PySem.W

/-- int op x by comparison, x an instance with the reflected method -/
theorem cmp_refl {op : CmpOp} {i : Int} {t : Tok} {id : String} {B : Builtin} {dx : Addr} {Q : Value → Shared → Prop} (hu : A.units < cLine) (X : K.In s.heap) (I : InstAt s.heap x (instObj C dx) C od)
    (hs : findIn K (.ref C) (cmpInfo op).2.2 = some (some (.ref f))) (hf : isFn K (.ref f) = true) (hsub : subIn K (.ref C) (.type "int") = some false)
    (slot : Slot "int" (cmpInfo op).2.1 id) (entry : entryFor table id = some B) (args : argsOk id ⟨[.int i t, .ref x], []⟩) (dec : GivesAt (HasObj x) (B ⟨[.int i t, .ref x], []⟩) (.val .notImplemented))
    (h : wpAny (model prog w) A (call (.ref f) [.ref x, .int i t]) (PySem.W.CmpBack Q) E s) : wpAny (model prog w) A (richCompare op (.int i t) (.ref x)) Q E s := by
  have hx : HasObj x s := ⟨C, dx, I.at_⟩
  have one : wpAny (model prog w) A (tryCompare (.ref x) (cmpInfo op).2.2 (.int i t)) (fun r s' => ∃ v, r = some v ∧ Q v s') E s := by
    unfold tryCompare
    refine wpAny_bind (ifBound_K X I hs hf (wpAny_mono h (fun v s' hv => ?_) fun _ _ e => e))
    cases v <;> first | exact hv.elim | exact wpAny_pure ⟨_, rfl, hv⟩
  have two : ∀ {Q' : Option Value → Shared → Prop}, Q' none s → wpAny (model prog w) A (tryCompare (.int i t) (cmpInfo op).2.1 (.ref x)) Q' E s := fun q =>
    wpAny_tryCompare_declines (typeIs_int s i t) slot (call_givesAt slot (typeIs_int s i t) entry args dec hx ⟨rfl, q⟩)
  have hne : (Value.type "int" != Value.ref C) = true := by simp
  unfold richCompare
  simp only [(typeIs_int s i t).oneThing_none]
  refine wpAny_holding (wpAny_bind (wpAny_cRoomFor hu ?_))
  refine wpAny_bind (wpAny_typeOf (typeIs_int s i t) (wpAny_bind (I.type.here ?_)))
  simp only [hne, if_true]
  refine wpAny_bind ((looks_subIn X hsub).here ?_)
  simp only [Bool.false_eq_true, if_false, Bool.not_false, if_true]
  refine wpAny_bind (two ?_)
  refine wpAny_bind (wpAny_mono one (fun r s' z => ?_) fun _ _ e => e)
  obtain ⟨v, rfl, hq⟩ := z
  exact wpAny_pure hq

theorem check_ne {Q : Unit → Shared → Prop} (X : K.In s.heap) (I : InstAt s.heap x ox C od) (hm : mroIn K C (.type "object") = some true) (h : Q () s) : wpAny (model prog w) A (checkBuiltinCall "object.__ne__" ⟨[.ref x, b], []⟩) Q E s := by
  simp only [checkBuiltinCall, F.cmpKind_ne, F.cmpSplit_ne]
  refine wpAny_bind ?_
  have LI : Looks (model prog w) s.heap (isInstance (.ref x) (.type "object")) true := I.type.andThen (looks_mroIn X hm)
  refine LI.here ?_
  cases hsig : Manifest.signature? "object.__ne__" with
  | none => exact wpAny_pure h
  | some sig =>
    have ha := F.cmpArgs_ne (.ref x) b
    simp only [argsOk, hsig] at ha
    have h2 : Bind.checkArgs "object.__ne__" sig ⟨[.ref x, b], []⟩ = pure () := ha
    show wpAny _ A (Bind.checkArgs "object.__ne__" sig ⟨[.ref x, b], []⟩) Q E _
    rw [h2]
    exact wpAny_pure h
/-- object.__ne__ asks the own __eq__ -/
theorem run_ne {Q : Fin → Shared → Prop} (hu : A.units < cLine) (X : K.In s.heap) (I : InstAt s.heap x ox C od) (hs : findIn K (.ref C) "__eq__" = some (some (.ref f))) (hf : isFn K (.ref f) = true)
    (h : wpAny (model prog w) A (call (.ref f) [.ref x, b]) (fun v s' => ∃ k, v = .bool k ∧ Q (.done (.ret (.bool (!k)))) s') E s) : wpAny (model prog w) A (Builtin.«object.__ne__» ⟨[.ref x, b], []⟩) Q E s := by
  unfold Builtin.«object.__ne__»
  repeat (first
    | with_reducible refine wpAny_cRoomFor hu ?_
    | (refine wpAny_bind (m := callSpecialIfBound? (.ref x) (Str.ofString "__eq__") [b])
        (ifBound_K X I hs hf (wpAny_mono h (fun r s' hr => by
          obtain ⟨k, rfl, hq⟩ := hr
          repeat (first | exact hq | exact wpAny_pure hq | exact wpAny_truthy_bool hq | (refine wpAny_bind (m := truthy (.bool _)) (wpAny_truthy_bool ?_)) | wp_step)) fun _ _ e => e)))
    | wp_step)
theorem try_ne {Q : Option Value → Shared → Prop} (hu : A.units + 1 < cLine) (X : K.In s.heap) (I : InstAt s.heap x ox C od) (hn : findIn K (.ref C) "__ne__" = some (some (.builtin "object.__ne__"))) (hm : mroIn K C (.type "object") = some true)
    (hs : findIn K (.ref C) "__eq__" = some (some (.ref f))) (hf : isFn K (.ref f) = true)
    (h : wpAny (model prog w) A.in1 (call (.ref f) [.ref x, b]) (fun v s' => ∃ k, v = .bool k ∧ Q (some (.bool (!k))) s') E s) : wpAny (model prog w) A (tryCompare (.ref x) "__ne__" b) Q E s := by
  have fin : wpAny (model prog w) A (call (.builtin "object.__ne__") [.ref x, b]) (fun v s' => ∃ k, v = .bool k ∧ Q (some v) s') E s := by
    refine wpAny_call (codeAny_call_builtin F.cmp_object.ne.plain F.cmpEntry_ne (check_ne X I hm (run_ne (A := A.in1) hu X I hs hf (wpAny_mono h (fun v s' hv => ?_) fun _ _ e => e))))
    obtain ⟨k, rfl, hq⟩ := hv
    exact ⟨k, rfl, !k, rfl, hq⟩
  unfold tryCompare
  simp only [callSpecialIfBound?, bindSpecialIfBound?]
  refine wpAny_bind (wpAny_holding (wpAny_bind (wpAny_bind (wpAny_bind (I.type.here ((looks_findIn X hn).here ?_))))))
  simp only [F.cmp_object.ne.bind]
  refine wpAny_bind (wpAny_askSetting (wpAny_ite ?_))
  have fin2 : wpAny (model prog w) A (call (.builtin "object.__ne__") ([.ref x] ++ [b]) >>= fun v => pure (some v)) (fun r s' => ∃ k, r = some (.bool k) ∧ Q r s') E s :=
    wpAny_bind (wpAny_mono fin (fun v s' h' => by obtain ⟨k, rfl, q⟩ := h'; exact wpAny_pure ⟨k, rfl, q⟩) fun _ _ h' => h')
  have fin3 : wpAny (model prog w) A (call (.builtin "object.__ne__") ([.ref x] ++ [b]) >>= fun v => pure (some v)) (fun r s' => wpAny (model prog w) A (match r with | some .notImplemented | none => pure none | some v => pure (some v)) Q E s') E s :=
    wpAny_mono fin2 (fun r s' h' => by obtain ⟨k, rfl, q⟩ := h'; exact wpAny_pure q) fun _ _ h' => h'
  split
  · exact wpAny_bind (wpAny_pure (wpAny_pure fin3))
  · exact wpAny_tryCatch (wpAny_bind (wpAny_pure (wpAny_pure fin3)))
/-- x != b, x an instance whose class has an own __eq__ alone; b of a class that is not below -/
theorem ne_own {tb : Value} {Q : Value → Shared → Prop} (hu : A.units + 1 < cLine) (X : K.In s.heap) (I : InstAt s.heap x ox C od) (hb : Looks (model prog w) s.heap (typeOf b) tb) (hnf : notFirst K C tb = true) (hn : findIn K (.ref C) "__ne__" = some (some (.builtin "object.__ne__")))
    (hm : mroIn K C (.type "object") = some true) (hs : findIn K (.ref C) "__eq__" = some (some (.ref f))) (hf : isFn K (.ref f) = true)
    (h : wpAny (model prog w) A.in1 (call (.ref f) [.ref x, b]) (fun v s' => ∃ k, v = .bool k ∧ Q (.bool (!k)) s') E s) : wpAny (model prog w) A (richCompare .NotEq (.ref x) b) Q E s := by
  have one : wpAny (model prog w) A (tryCompare (.ref x) "__ne__" b) (fun r s' => ∃ v, r = some v ∧ Q v s') E s :=
    try_ne hu X I hn hm hs hf (wpAny_mono h (fun v s' hv => by obtain ⟨k, rfl, q⟩ := hv; exact ⟨k, rfl, _, rfl, q⟩) fun _ _ e => e)
  unfold richCompare
  simp only [oneThing_ref]
  refine wpAny_holding (wpAny_bind (wpAny_cRoomFor (Nat.lt_of_succ_lt hu) ?_))
  rw [cmpInfo_NotEq]
  dsimp only
  refine wpAny_bind (I.type.here (wpAny_bind (hb.here ?_)))
  split
  · rename_i q
    have e : subIn K tb (.ref C) = some false := by
      rcases Bool.or_eq_true_iff.mp hnf with e | e
      · rw [beq_iff_eq.mp e] at q; simp at q
      · exact beq_iff_eq.mp e
    refine wpAny_bind ((looks_subIn X e).here ?_)
    simp only [Bool.false_eq_true, if_false]
    refine wpAny_bind (wpAny_mono one (fun r s' z => ?_) fun _ _ e => e)
    obtain ⟨v, rfl, hq⟩ := z
    exact wpAny_pure hq
  · refine wpAny_bind (wpAny_pure ?_)
    simp only [Bool.false_eq_true, if_false]
    refine wpAny_bind (wpAny_mono one (fun r s' z => ?_) fun _ _ e => e)
    obtain ⟨v, rfl, hq⟩ := z
    exact wpAny_pure hq
/-- int != x -/
theorem ne_refl {i : Int} {t : Tok} {dx : Addr} {Q : Value → Shared → Prop} (hu : A.units + 1 < cLine) (X : K.In s.heap) (I : InstAt s.heap x (instObj C dx) C od) (hsub : subIn K (.ref C) (.type "int") = some false)
    (hn : findIn K (.ref C) "__ne__" = some (some (.builtin "object.__ne__"))) (hm : mroIn K C (.type "object") = some true) (hs : findIn K (.ref C) "__eq__" = some (some (.ref f))) (hf : isFn K (.ref f) = true)
    (h : wpAny (model prog w) A.in1 (call (.ref f) [.ref x, .int i t]) (fun v s' => ∃ k, v = .bool k ∧ Q (.bool (!k)) s') E s) : wpAny (model prog w) A (richCompare .NotEq (.int i t) (.ref x)) Q E s := by
  have hx : HasObj x s := ⟨C, dx, I.at_⟩
  have one : wpAny (model prog w) A (tryCompare (.ref x) "__ne__" (.int i t)) (fun r s' => ∃ v, r = some v ∧ Q v s') E s :=
    try_ne hu X I hn hm hs hf (wpAny_mono h (fun v s' hv => by obtain ⟨k, rfl, q⟩ := hv; exact ⟨k, rfl, _, rfl, q⟩) fun _ _ e => e)
  have two : ∀ {Q' : Option Value → Shared → Prop}, Q' none s → wpAny (model prog w) A (tryCompare (.int i t) "__ne__" (.ref x)) Q' E s := fun q =>
    wpAny_tryCompare_declines (typeIs_int s i t) F.slot_int_ne (call_givesAt F.slot_int_ne (typeIs_int s i t) F.entry_int_ne (F.args_int_ne_2 _ _) (decl_ne i t x) hx ⟨rfl, q⟩)
  have hne : (Value.type "int" != Value.ref C) = true := by simp
  unfold richCompare
  simp only [(typeIs_int s i t).oneThing_none]
  refine wpAny_holding (wpAny_bind (wpAny_cRoomFor (Nat.lt_of_succ_lt hu) ?_))
  rw [cmpInfo_NotEq]
  dsimp only
  refine wpAny_bind (wpAny_typeOf (typeIs_int s i t) (wpAny_bind (I.type.here ?_)))
  simp only [hne, if_true]
  refine wpAny_bind ((looks_subIn X hsub).here ?_)
  simp only [Bool.false_eq_true, if_false, Bool.not_false, if_true]
  refine wpAny_bind (two ?_)
  refine wpAny_bind (wpAny_mono one (fun r s' z => ?_) fun _ _ e => e)
  obtain ⟨v, rfl, hq⟩ := z
  exact wpAny_pure hq
end
end AT

end

section
namespace AT
open PySem PySem.Spec PyProof.Rows L2
/-- what the written part says of a class whose operators are its own -/
structure OwnC (K : PySem.W.Frag) (C : Addr) : Prop where
  cl : Cls K C
  first : PySem.W.selfFirst K C = true
  notInt : PySem.W.subIn K (.ref C) (.type "int") = some false
  obj : PySem.W.mroIn K C (.type "object") = some true
  ca : PySem.W.findIn K (.ref C) "__class__" = some (some (.builtin "object.__class__"))
  cn : PySem.W.specialIn K (.builtin "object.__class__") "__get__" = some (some (.builtin "getset_descriptor.__get__"))
  ct : PySem.W.takesIn K (.builtin "object.__class__") = some true
/-- a method of the class by its name -/
structure OwnM (K : PySem.W.Frag) (C f : Addr) (name : Str) : Prop where
  at_ : PySem.W.findIn K (.ref C) name = some (some (.ref f))
  fn : PySem.W.isFn K (.ref f) = true
theorem OwnC.ty {K : PySem.W.Frag} {C a dx : Addr} {H : Hp} {fs : List (Str × V)} (o : OwnC K C) (h : H a = some (.ins C dx fs)) : TyX K H (.ref a) (.ref C) := .base (.ins h o.cl o.ca o.cn o.ct o.obj)

theorem rel_ref {a : Addr} : RelV (.ref a) (.ref a) := rfl
theorem rel_int {i : Int} {t : Tok} : RelV (.int i) (.int i t) := ⟨t, rfl⟩
section
variable {X : Cx} {CX : CXT} {C g r : Addr} {fd fd' : FuncData} {ps ps' : List Str} {n : Nat} {sp : Sp} {E : XK} {op : Operator} {cop : CmpOp}
theorem inst_at {pins : List (Addr × Obj)} {σ : L2.St} {H : Hp} {s : Shared} {a dx : Addr} {fs : List (Str × V)} (I : Inv X pins σ H s) (h : H a = some (.ins C dx fs)) : ∃ od, PySem.W.InstAt s.heap a (PySem.W.instObj C dx) C (some od) := by
  obtain ⟨mA, O, _⟩ := ins_get I.hok h
  obtain ⟨od, J, _⟩ := O.look
  exact ⟨od, J⟩
theorem run_two {pins : List (Addr × Obj)} {σ : L2.St} {H : Hp} {s : Shared} {Q : VK} {x y : V} {u v : Value} (F : FnOk X.prog X.w X.K X.mg X.base CX n g fd ps sp) (hr : Room n X.A) (hb : Binds X.K fd ps []) (hx : Passes CX X E) (I : Inv X pins σ H s)
    (rx : RelV x u) (ry : RelV y v) (h : sp [x, y] H Q E) : wpAny (model X.prog X.w) X.A (call (.ref g) [u, v]) (PySem.W.CmpBack (EP X pins σ Q)) X.xe s := by
  have z : wpAny (model X.prog X.w) X.A (call (.ref g) [u, v]) (EP X pins σ Q) X.xe s := run_fn (us := [u, v]) (vs := [x, y]) F hr hb .nil hx I (.cons rx (.cons ry .nil)) (by simpa using h)
  refine thn z fun w s' q => ?_
  obtain ⟨z', H', I', rz, qz⟩ := q
  exact SlX.cmpback rz ⟨z', H', I', rz, qz⟩
/-- x op y: both instances of the class -/
def rInsIns (C : Addr) (sp : Sp) (E : XK) : R2 := fun x y H Q => ∃ a dx fs b dy gs, x = .ref a ∧ y = .ref b ∧ H a = some (.ins C dx fs) ∧ H b = some (.ins C dy gs) ∧ sp [x, y] H Q E
/-- x op i, i an int -/
def rInsInt (C : Addr) (sp : Sp) (E : XK) : R2 := fun x y H Q => ∃ a dx fs i, x = .ref a ∧ y = .int i ∧ H a = some (.ins C dx fs) ∧ sp [x, y] H Q E
/-- i op y: the reflected method of y -/
def rIntIns (C : Addr) (sp : Sp) (E : XK) : R2 := fun x y H Q => ∃ i b dy gs, x = .int i ∧ y = .ref b ∧ H b = some (.ins C dy gs) ∧ sp [y, x] H Q E
theorem op_insIns (o : OwnC X.K C) (m : OwnM X.K C g (PySem.dunder op.info.2)) (F : FnOk X.prog X.w X.K X.mg X.base CX n g fd ps sp) (hr : Room n X.A) (hb : Binds X.K fd ps []) (hx : Passes CX X E) : OpR X (binaryOp op) (rInsIns C sp E) := by
  intro pins s σ H x y v u Q I rx ry h
  obtain ⟨a, dx, fs, b, dy, gs, rfl, rfl, ha, hb', q⟩ := h
  cases (show v = Value.ref a from rx)
  cases (show u = Value.ref b from ry)
  obtain ⟨od, J⟩ := inst_at I ha
  obtain ⟨od', J'⟩ := inst_at I hb'
  exact bin_same I.kIn J J' o.first m.at_ m.fn (run_two F hr hb hx I rel_ref rel_ref q)
theorem op_insInt {fo ro rc : Option Value} (o : OwnC X.K C) (m : OwnM X.K C g (PySem.dunder op.info.2)) (hrc : PySem.W.findIn X.K (.ref C) (dunderR op.info.2) = some rc) (hp : rc = none ∨ ∃ q : Addr, rc = some (.ref q))
    (h1 : PySem.W.findIn X.K (.type "int") (PySem.dunder op.info.2) = some fo) (h2 : PySem.W.findIn X.K (.type "int") (dunderR op.info.2) = some ro) (hsub : PySem.W.subIn X.K (.type "int") (.ref C) = some false)
    (F : FnOk X.prog X.w X.K X.mg X.base CX n g fd ps sp) (hr : Room n X.A) (hb : Binds X.K fd ps []) (hx : Passes CX X E) : OpR X (binaryOp op) (rInsInt C sp E) := by
  intro pins s σ H x y v u Q I rx ry h
  obtain ⟨a, dx, fs, i, rfl, rfl, ha, q⟩ := h
  cases (show v = Value.ref a from rx)
  obtain ⟨t, rfl⟩ := (show ∃ t, u = Value.int i t from ry)
  obtain ⟨od, J⟩ := inst_at I ha
  obtain ⟨mm, hF⟩ := I.fr
  exact PySem.W.ksp_binT hF I.ok.mod.kin J rfl o.first m.at_ m.fn hrc hp h1 h2 hsub (run_two F hr hb hx I rel_ref rel_int q)
/-- the int's own slot declines -/
structure IntDeclines (op : Operator) : Prop where
  fills : fillsNumberSlot (.type "int") op.info.2 = pure true
  ex : ∃ (id : String) (B : Builtin), Slot "int" (PySem.dunder op.info.2) id ∧ entryFor table id = some B ∧ ∀ (i : Int) (t : Tok) (x : Addr), argsOk id ⟨[.int i t, .ref x], []⟩ ∧ GivesAt (HasObj x) (B ⟨[.int i t, .ref x], []⟩) (.val .notImplemented)
theorem dec_add : IntDeclines .Add := ⟨PySem.F.fills_int_add, _, _, PySem.F.slot_int_add, PySem.F.entry_int_add, fun i t x => ⟨PySem.F.args_int_add_2 _ _, decl_add i t x⟩⟩
theorem dec_sub : IntDeclines .Sub := ⟨PySem.F.fills_int_sub, _, _, PySem.F.slot_int_sub, PySem.F.entry_int_sub, fun i t x => ⟨PySem.F.args_int_sub_2 _ _, decl_sub i t x⟩⟩
theorem dec_mul : IntDeclines .Mult := ⟨PySem.F.fills_int_mul, _, _, PySem.F.slot_int_mul, PySem.F.entry_int_mul, fun i t x => ⟨PySem.F.args_int_mul_2 _ _, decl_mul i t x⟩⟩
theorem dec_fdiv : IntDeclines .FloorDiv := ⟨PySem.F.fills_int_floordiv, _, _, PySem.F.slot_int_floordiv, PySem.F.entry_int_floordiv, fun i t x => ⟨PySem.F.args_int_floordiv_2 _ _, decl_floordiv i t x⟩⟩
theorem dec_mod : IntDeclines .Mod := ⟨PySem.F.fills_int_mod, _, _, PySem.F.slot_int_mod, PySem.F.entry_int_mod, fun i t x => ⟨PySem.F.args_int_mod_2 _ _, decl_mod i t x⟩⟩
theorem op_intIns {l : Addr} (d : IntDeclines op) (o : OwnC X.K C) (hl : PySem.W.findIn X.K (.ref C) (PySem.dunder op.info.2) = some (some (.ref l))) (m : OwnM X.K C g (dunderR op.info.2))
    (F : FnOk X.prog X.w X.K X.mg X.base CX n g fd ps sp) (hr : Room n X.A) (hb : Binds X.K fd ps []) (hx : Passes CX X E) : OpR X (binaryOp op) (rIntIns C sp E) := by
  intro pins s σ H x y v u Q I rx ry h
  obtain ⟨i, b, dy, gs, rfl, rfl, hb', q⟩ := h
  obtain ⟨t, rfl⟩ := (show ∃ t, v = Value.int i t from rx)
  cases (show u = Value.ref b from ry)
  obtain ⟨od, J⟩ := inst_at I hb'
  obtain ⟨hfi, id, B, slot, entry, dd⟩ := d
  exact bin_refl I.kIn J o.first hl m.at_ m.fn o.notInt hfi slot entry (dd i t b).1 (dd i t b).2 (run_two F hr hb hx I rel_ref rel_int q)
/-- x cop y, x an instance, y of any kind told -/
def rCmpIns (K : PySem.W.Frag) (C : Addr) (sp : Sp) (E : XK) : R2 := fun x y H Q => ∃ a dx fs ty, x = .ref a ∧ H a = some (.ins C dx fs) ∧ TyX K H y ty ∧ PySem.W.notFirst K C ty = true ∧ sp [x, y] H Q E
theorem op_cmpIns (hop : ∀ a b, compareOp cop a b = richCompare cop a b) (m : OwnM X.K C g (cmpInfo cop).2.1) (F : FnOk X.prog X.w X.K X.mg X.base CX n g fd ps sp) (hr : Room n X.A) (hb : Binds X.K fd ps []) (hx : Passes CX X E) :
    OpR X (compareOp cop) (rCmpIns X.K C sp E) := by
  intro pins s σ H x y v u Q I rx ry h
  obtain ⟨a, dx, fs, ty, rfl, ha, hty, hn, q⟩ := h
  cases (show v = Value.ref a from rx)
  obtain ⟨od, J⟩ := inst_at I ha
  obtain ⟨P, Z, p, _⟩ := kit_of I ry hty
  obtain ⟨mm, hF⟩ := I.fr
  rw [hop]
  exact PySem.W.cmp_K (op := cop) hr.units0 hF I.ok.mod.kin J (Z.ty _ _ I.kIn p) hn m.at_ m.fn (run_two F hr hb hx I rel_ref ry q)
structure IntDeclinesC (op : CmpOp) : Prop where
  ex : ∃ (id : String) (B : Builtin), Slot "int" (cmpInfo op).2.1 id ∧ entryFor table id = some B ∧ ∀ (i : Int) (t : Tok) (x : Addr), argsOk id ⟨[.int i t, .ref x], []⟩ ∧ GivesAt (HasObj x) (B ⟨[.int i t, .ref x], []⟩) (.val .notImplemented)
theorem dec_lt : IntDeclinesC .Lt := ⟨_, _, PySem.F.slot_int_lt, PySem.F.entry_int_lt, fun i t x => ⟨PySem.F.args_int_lt_2 _ _, decl_lt i t x⟩⟩
theorem dec_le : IntDeclinesC .LtE := ⟨_, _, PySem.F.slot_int_le, PySem.F.entry_int_le, fun i t x => ⟨PySem.F.args_int_le_2 _ _, decl_le i t x⟩⟩
theorem dec_gt : IntDeclinesC .Gt := ⟨_, _, PySem.F.slot_int_gt, PySem.F.entry_int_gt, fun i t x => ⟨PySem.F.args_int_gt_2 _ _, decl_gt i t x⟩⟩
theorem dec_ge : IntDeclinesC .GtE := ⟨_, _, PySem.F.slot_int_ge, PySem.F.entry_int_ge, fun i t x => ⟨PySem.F.args_int_ge_2 _ _, decl_ge i t x⟩⟩
theorem dec_eq : IntDeclinesC .Eq := ⟨_, _, PySem.F.slot_int_eq, PySem.F.entry_int_eq, fun i t x => ⟨PySem.F.args_int_eq_2 _ _, decl_eq i t x⟩⟩
theorem op_cmpInt (hop : ∀ a b, compareOp cop a b = richCompare cop a b) (d : IntDeclinesC cop) (o : OwnC X.K C) (m : OwnM X.K C g (cmpInfo cop).2.2) (F : FnOk X.prog X.w X.K X.mg X.base CX n g fd ps sp) (hr : Room n X.A) (hb : Binds X.K fd ps []) (hx : Passes CX X E) :
    OpR X (compareOp cop) (rIntIns C sp E) := by
  intro pins s σ H x y v u Q I rx ry h
  obtain ⟨i, b, dy, gs, rfl, rfl, hb', q⟩ := h
  obtain ⟨t, rfl⟩ := (show ∃ t, v = Value.int i t from rx)
  cases (show u = Value.ref b from ry)
  obtain ⟨od, J⟩ := inst_at I hb'
  obtain ⟨id, B, slot, entry, dd⟩ := d
  rw [hop]
  exact cmp_refl hr.units0 I.kIn J m.at_ m.fn o.notInt slot entry (dd i t b).1 (dd i t b).2 (run_two F hr hb hx I rel_ref rel_int q)
/-- the callee runs one call deeper -/
theorem run_deep {A : Around} {pins : List (Addr × Obj)} {σ : L2.St} {H : Hp} {s : Shared} {Q : VK} {x y : V} {u v : Value} (F : FnOk X.prog X.w X.K X.mg X.base CX n g fd ps sp) (hr : Room n A) (e0 : Env0 X.prog X.w X.K X.mg X.base A X.stack s H) (hb : Binds X.K fd ps []) (hx : Passes CX X E)
    (I : Inv X pins σ H s) (rx : RelV x u) (ry : RelV y v) (h : sp [x, y] H Q E) : wpAny (model X.prog X.w) A (call (.ref g) [u, v]) (EP X pins σ Q) X.xe s := by
  have r2 : Vals [x, y] [u, v] := .cons rx (.cons ry .nil)
  have hl : [u, v].length = ps.length := by rw [← r2.length]; exact F.len _ _ _ _ h
  refine wpAny_call (codeAny_mono (F.run A X.stack s H ⟨[u, v], []⟩ [u, v] [x, y] Q E hr e0 (by have := hb s [u, v] I.kIn (by simpa using hl); simpa using this) r2 h) fun r s' hq => ?_)
  cases r with
  | error e => exact hx pins σ H s e s' I hq
  | ok fl => cases fl with
    | ret w => exact I.after hq
    | next => exact (show False from hq).elim
    | brk => exact (show False from hq).elim
    | cont => exact (show False from hq).elim
/-- x != y by an own == alone -/
def rNeIns (K : PySem.W.Frag) (C : Addr) (sp : Sp) (E : XK) : R2 := fun x y H Q => ∃ a dx fs ty, x = .ref a ∧ H a = some (.ins C dx fs) ∧ TyX K H y ty ∧ PySem.W.notFirst K C ty = true ∧ sp [x, y] H (fun z H' => ∃ k, z = .bl k ∧ Q (.bl (!k)) H') E
def rNeInt (C : Addr) (sp : Sp) (E : XK) : R2 := fun x y H Q => ∃ i b dy gs, x = .int i ∧ y = .ref b ∧ H b = some (.ins C dy gs) ∧ sp [y, x] H (fun z H' => ∃ k, z = .bl k ∧ Q (.bl (!k)) H') E
theorem op_neIns (o : OwnC X.K C) (hn : PySem.W.findIn X.K (.ref C) "__ne__" = some (some (.builtin "object.__ne__"))) (m : OwnM X.K C g "__eq__") (F : FnOk X.prog X.w X.K X.mg X.base CX n g fd ps sp) (hr : Room (n + 1) X.A) (hb : Binds X.K fd ps []) (hx : Passes CX X E) :
    OpR X (compareOp .NotEq) (rNeIns X.K C sp E) := by
  intro pins s σ H x y v u Q I rx ry h
  obtain ⟨a, dx, fs, ty, rfl, ha, hty, hnf, q⟩ := h
  cases (show v = Value.ref a from rx)
  obtain ⟨od, J⟩ := inst_at I ha
  obtain ⟨P, Z, p, _⟩ := kit_of I ry hty
  show wpAny _ _ (richCompare .NotEq _ _) _ _ _
  have dd := run_deep (Q := fun z H' => ∃ k, z = .bl k ∧ Q (.bl (!k)) H') F hr.in1 I.env0.in1 hb hx I rel_ref ry q
  refine ne_own (s := s) (hu_of hr) I.kIn J (Z.ty _ _ I.kIn p) hnf hn o.obj m.at_ m.fn (thn dd fun w s' z => ?_)
  obtain ⟨z', H', I', rz, k, rfl, qz⟩ := z
  exact ⟨k, rz, .bl (!k), H', I', rfl, qz⟩
theorem op_neInt (o : OwnC X.K C) (hn : PySem.W.findIn X.K (.ref C) "__ne__" = some (some (.builtin "object.__ne__"))) (m : OwnM X.K C g "__eq__") (F : FnOk X.prog X.w X.K X.mg X.base CX n g fd ps sp) (hr : Room (n + 1) X.A) (hb : Binds X.K fd ps []) (hx : Passes CX X E) :
    OpR X (compareOp .NotEq) (rNeInt C sp E) := by
  intro pins s σ H x y v u Q I rx ry h
  obtain ⟨i, b, dy, gs, rfl, rfl, hb', q⟩ := h
  obtain ⟨t, rfl⟩ := (show ∃ t, v = Value.int i t from rx)
  cases (show u = Value.ref b from ry)
  obtain ⟨od, J⟩ := inst_at I hb'
  show wpAny _ _ (richCompare .NotEq _ _) _ _ _
  have dd := run_deep (v := .int i t) (Q := fun z H' => ∃ k, z = .bl k ∧ Q (.bl (!k)) H') F hr.in1 I.env0.in1 hb hx I rel_ref rel_int q
  refine ne_refl (s := s) (hu_of hr) I.kIn J o.notInt hn o.obj m.at_ m.fn (thn dd fun w s' z => ?_)
  obtain ⟨z', H', I', rz, k, rfl, qz⟩ := z
  exact ⟨k, rz, .bl (!k), H', I', rfl, qz⟩
/-- -x -/
def rUnIns (C : Addr) (sp : Sp) (E : XK) : V → Hp → VK → Prop := fun x H Q => ∃ a dx fs, x = .ref a ∧ H a = some (.ins C dx fs) ∧ sp [x] H Q E
theorem un_negIns (m : OwnM X.K C g "__neg__") (F : FnOk X.prog X.w X.K X.mg X.base CX n g fd ps sp) (hr : Room n X.A) (hb : Binds X.K fd ps []) (hx : Passes CX X E) : UnR X (unaryOp .USub) (rUnIns C sp E) := by
  intro pins s σ H x v Q I rx h
  obtain ⟨a, dx, fs, rfl, ha, q⟩ := h
  cases (show v = Value.ref a from rx)
  obtain ⟨od, J⟩ := inst_at I ha
  obtain ⟨mm, hF⟩ := I.fr
  exact PySem.W.ksp_neg hF I.ok.mod.kin J m.at_ m.fn (run_fn (us := [.ref a]) (vs := [.ref a]) F hr hb .nil hx I (.cons rfl .nil) (by simpa using q))
/-- // that may be by zero -/
theorem op_fdivX {W : XK} (hc : X.calm = true) (tk : Takes X (fun cls d _ H => W cls d H)) : OpR X (binaryOp .FloorDiv) (fun x y H Q => ∃ i j, x = .int i ∧ y = .int j ∧ ((j ≠ 0 ∧ j.natAbs.log2 < 9000 ∧ Q (.int (i.fdiv j)) H) ∨ (j = 0 ∧ ∀ d, W (.type "ZeroDivisionError") d H))) := by
  intro pins s σ H x y v u Q I rx ry h
  obtain ⟨i, j, rfl, rfl, h⟩ := h
  obtain ⟨t, rfl⟩ := (show ∃ t, v = Value.int i t from rx)
  obtain ⟨t', rfl⟩ := (show ∃ t, u = Value.int j t from ry)
  rcases h with ⟨h0, hl, q⟩ | ⟨rfl, w⟩
  · exact floordiv_int h0 ⟨.int (i.fdiv j), H, I.tok _, ⟨_, rfl⟩, q⟩ (.inl (PyProof.noPylong_of_log2 hl))
  · refine PySem.AutoIntOps.floordiv_0 rfl ?_
    exact ⟨I.ok.hd hc, fun h' tk' e hx => takes_new (t' := tk') tk I hx w⟩
end
end AT

end

section
namespace AT
open PySem PySem.Spec PyProof.Rows L2
section
variable {prog : Program} {w : World} {M : Model} {A : Around} {E : Value → Shared → Prop} {s : Shared} {K : PySem.W.Frag} {x C L f : Addr} {h₀ : Heap} {m : Str → Option Value} {ox : Obj} {od : Option Obj} {nm T : String} {h : Heap} {cd : ClassData}
open PySem.W
/-- no own op= -/
theorem noI {add : Bool} (X : K.In h) (hc : clsIn K C = some cd) (hm : cd.mro = [.ref C, .type "object"]) (h1 : findIn K (.ref C) (dunderI nm) = some none) (h2 : findIn K (.type "object") (dunderI nm) = some none) : Looks M h (fillsInplaceSlot (.ref C) nm add) false := by
  intro A Q E s k q
  have Lm : Looks M h (mroOf (.ref C)) cd.mro := (looks_clsIn X hc).andThen (f := fun cd => pure cd.mro) .now
  have Lm' := Lm.keeps k
  obtain ⟨hh, g, d, tk, os⟩ := s
  have X' : K.In hh := X.keeps k
  have L1 : Looks M hh (typeLookup (.ref C) (dunderI nm)) none := looks_findIn X' h1
  have L2 : Looks M hh (typeLookup (.type "object") (dunderI nm)) none := looks_findIn X' h2
  unfold fillsInplaceSlot
  refine wpAny_bind (Lm'.at ?_)
  rw [hm, List.anyM_cons]
  refine wpAny_bind ?_
  repeat lk
  exact q
/-- x op= y, two instances of one class, by op -/
theorem ibin_same {op : Operator} {y : Addr} {oy : Obj} {od' : Option Obj} {Q : Value → Shared → Prop} (X : K.In s.heap) (I : InstAt s.heap x ox C od) (J : InstAt s.heap y oy C od') (hcd : clsIn K C = some cd) (hm : cd.mro = [.ref C, .type "object"])
    (i1 : findIn K (.ref C) (dunderI op.info.2) = some none) (i2 : findIn K (.type "object") (dunderI op.info.2) = some none)
    (hs : findIn K (.ref C) (PySem.dunder op.info.2) = some (some (.ref f))) (hf : isFn K (.ref f) = true)
    (h : wpAny (model prog w) A (call (.ref f) [.ref x, .ref y]) (PySem.W.CmpBack Q) E s) : wpAny (model prog w) A (inplaceOp op (.ref x) (.ref y)) Q E s := by
  have one := ksp_try X I hs hf h
  obtain ⟨hh, g, d, tt, os⟩ := s
  have L1 : Looks (model prog w) hh (typeOf (.ref x)) (.ref C) := I.type
  have L2 : Looks (model prog w) hh (typeOf (.ref y)) (.ref C) := J.type
  have L3 : Looks (model prog w) hh (fillsNumberSlot (.ref C) op.info.2) true := fills_K X hcd hm hs
  have L4 : Looks (model prog w) hh (fillsInplaceSlot (.ref C) op.info.2 (op == .Add)) false := noI X hcd hm i1 i2
  unfold inplaceOp
  refine wpAny_holding ?_
  refine wpAny_bind (L1.at (wpAny_bind (L4.at ?_)))
  simp only [Bool.false_eq_true, if_false, pure_bind]
  refine wpAny_bind ?_
  unfold binaryOp1
  refine wpAny_bind (L1.at (wpAny_bind (L2.at (wpAny_bind (L3.at ?_)))))
  simp only [beq_self_eq_true, if_true]
  ksp_lk
  refine wpAny_mono one (fun r s' hr' => ?_) fun _ _ e => e
  obtain ⟨v, rfl, hq⟩ := hr'
  ksp_lk
  exact hq
/-- x op= i, i of a built-in type -/
theorem ibin_ty {op : Operator} {b : Value} {fo ro rc : Option Value} {Q : Value → Shared → Prop} (X : K.In s.heap) (I : InstAt s.heap x ox C od) (hb : typeOf b = pure (.type T)) (hcd : clsIn K C = some cd) (hm : cd.mro = [.ref C, .type "object"])
    (i1 : findIn K (.ref C) (dunderI op.info.2) = some none) (i2 : findIn K (.type "object") (dunderI op.info.2) = some none)
    (hs : findIn K (.ref C) (PySem.dunder op.info.2) = some (some (.ref f))) (hf : isFn K (.ref f) = true) (hr : findIn K (.ref C) (dunderR op.info.2) = some rc) (hp : rc = none ∨ ∃ g : Addr, rc = some (.ref g))
    (h1 : findIn K (.type T) (PySem.dunder op.info.2) = some fo) (h2 : findIn K (.type T) (dunderR op.info.2) = some ro) (hsub : subIn K (.type T) (.ref C) = some false)
    (h : wpAny (model prog w) A (call (.ref f) [.ref x, b]) (PySem.W.CmpBack Q) E s) : wpAny (model prog w) A (inplaceOp op (.ref x) b) Q E s := by
  have one := ksp_try X I hs hf h
  obtain ⟨hh, g, d, tt, os⟩ := s
  have L1 : Looks (model prog w) hh (typeOf (.ref x)) (.ref C) := I.type
  have L2 : Looks (model prog w) hh (typeOf b) (.type T) := Looks.of_pure hb
  have L3 : Looks (model prog w) hh (fillsNumberSlot (.ref C) op.info.2) true := fills_K X hcd hm hs
  have L4 : Looks (model prog w) hh (fillsNumberSlot (.type T) op.info.2) ((fo.isSome && !isSeqSlot fo) || (ro.isSome && !isSeqSlot ro)) := ksp_fillsT X h1 h2
  have L5 : Looks (model prog w) hh (isSubtype (.type T) (.ref C)) false := looks_subIn X hsub
  have L6 : Looks (model prog w) hh (numberSlotInPython (.ref C) op.info.2) true := ksp_inPy X hs hr hp
  have L7 : Looks (model prog w) hh (numberSlotInPython (.type T) op.info.2) false := Looks.of_pure rfl
  have L8 : Looks (model prog w) hh (typeLookup (.type T) (dunderR op.info.2)) ro := looks_findIn X h2
  have L9 : Looks (model prog w) hh (fillsInplaceSlot (.ref C) op.info.2 (op == .Add)) false := noI X hcd hm i1 i2
  generalize ((fo.isSome && !isSeqSlot fo) || (ro.isSome && !isSeqSlot ro)) = right at L4
  have hne : (Value.ref C == Value.type T) = false := Bool.eq_false_iff.mpr fun q => by cases beq_iff_eq.mp q
  unfold inplaceOp
  refine wpAny_holding ?_
  refine wpAny_bind (L1.at (wpAny_bind (L9.at ?_)))
  simp only [Bool.false_eq_true, if_false, pure_bind]
  refine wpAny_bind ?_
  unfold binaryOp1
  refine wpAny_bind (L1.at (wpAny_bind (L2.at (wpAny_bind (L3.at ?_)))))
  simp only [hne, Bool.false_eq_true, if_false]
  cases right with
  | false =>
    ksp_lk
    refine wpAny_mono one (fun r s' hr' => ?_) fun _ _ e => e
    obtain ⟨v, rfl, hq⟩ := hr'
    ksp_lk
    exact hq
  | true =>
    ksp_lk
    refine wpAny_mono one (fun r s' hr' => ?_) fun _ _ e => e
    obtain ⟨v, rfl, hq⟩ := hr'
    ksp_lk
    exact hq
end
/-- names of the operators' methods -/
theorem dn_add : PySem.dunder (Operator.info .Add).2 = "__add__" := by decide +kernel
theorem dn_sub : PySem.dunder (Operator.info .Sub).2 = "__sub__" := by decide +kernel
theorem dn_mul : PySem.dunder (Operator.info .Mult).2 = "__mul__" := by decide +kernel
theorem dn_fdiv : PySem.dunder (Operator.info .FloorDiv).2 = "__floordiv__" := by decide +kernel
theorem dn_mod : PySem.dunder (Operator.info .Mod).2 = "__mod__" := by decide +kernel
theorem dn_pow : PySem.dunder (Operator.info .Pow).2 = "__pow__" := by decide +kernel
theorem dr_add : dunderR (Operator.info .Add).2 = "__radd__" := by decide +kernel
theorem dr_sub : dunderR (Operator.info .Sub).2 = "__rsub__" := by decide +kernel
theorem dr_mul : dunderR (Operator.info .Mult).2 = "__rmul__" := by decide +kernel
theorem dr_fdiv : dunderR (Operator.info .FloorDiv).2 = "__rfloordiv__" := by decide +kernel
theorem dr_mod : dunderR (Operator.info .Mod).2 = "__rmod__" := by decide +kernel
theorem dr_pow : dunderR (Operator.info .Pow).2 = "__rpow__" := by decide +kernel
theorem di_add : dunderI (Operator.info .Add).2 = "__iadd__" := by decide +kernel
theorem di_sub : dunderI (Operator.info .Sub).2 = "__isub__" := by decide +kernel
/-- the method, and how int's own type is looked at -/
structure IntOp (K : PySem.W.Frag) (C : Addr) (op : Operator) (l r : Addr) : Prop where
  ml : OwnM K C l (PySem.dunder op.info.2)
  mr : PySem.W.findIn K (.ref C) (dunderR op.info.2) = some none ∨ OwnM K C r (dunderR op.info.2)
  h1 : ∃ fo, PySem.W.findIn K (.type "int") (PySem.dunder op.info.2) = some fo
  h2 : ∃ ro, PySem.W.findIn K (.type "int") (dunderR op.info.2) = some ro
  hs : PySem.W.subIn K (.type "int") (.ref C) = some false
section
variable {X : Cx} {CX : CXT} {C l r : Addr} {fd : FuncData} {ps : List Str} {n : Nat} {sp : Sp} {E : XK} {op : Operator} {cd : ClassData}
theorem IntOp.rc {K : PySem.W.Frag} (o : IntOp K C op l r) : ∃ rc, PySem.W.findIn K (.ref C) (dunderR op.info.2) = some rc ∧ (rc = none ∨ ∃ q : Addr, rc = some (.ref q)) := by
  rcases o.mr with h | h
  · exact ⟨_, h, .inl rfl⟩
  · exact ⟨_, h.at_, .inr ⟨_, rfl⟩⟩
/-- x op y, x an instance, y one too or an int -/
def rIns (C : Addr) (sp : Sp) (E : XK) : R2 := fun x y H Q => ∃ a dx fs, x = .ref a ∧ H a = some (.ins C dx fs) ∧ ((∃ i, y = .int i) ∨ ∃ b dy gs, y = .ref b ∧ H b = some (.ins C dy gs)) ∧ sp [x, y] H Q E
theorem op_ins (o : OwnC X.K C) (i : IntOp X.K C op l r) (F : FnOk X.prog X.w X.K X.mg X.base CX n l fd ps sp) (hr : Room n X.A) (hb : Binds X.K fd ps []) (hx : Passes CX X E) : OpR X (binaryOp op) (rIns C sp E) := by
  intro pins s σ H x y v u Q I rx ry h
  obtain ⟨a, dx, fs, rfl, ha, hy, q⟩ := h
  obtain ⟨rc, e1, e2⟩ := i.rc
  obtain ⟨fo, h1⟩ := i.h1
  obtain ⟨ro, h2⟩ := i.h2
  rcases hy with ⟨j, rfl⟩ | ⟨b, dy, gs, rfl, hb'⟩
  · exact op_insInt o i.ml e1 e2 h1 h2 i.hs F hr hb hx pins s σ H _ _ v u Q I rx ry ⟨a, dx, fs, j, rfl, rfl, ha, q⟩
  · exact op_insIns o i.ml F hr hb hx pins s σ H _ _ v u Q I rx ry ⟨a, dx, fs, b, dy, gs, rfl, rfl, ha, hb', q⟩
structure MroC (K : PySem.W.Frag) (C : Addr) : Prop where
  at_ : ∃ cd, PySem.W.clsIn K C = some cd ∧ cd.mro = [.ref C, .type "object"]
theorem iop_ins (o : OwnC X.K C) (mr : MroC X.K C) (i1 : PySem.W.findIn X.K (.ref C) (dunderI op.info.2) = some none) (i2 : PySem.W.findIn X.K (.type "object") (dunderI op.info.2) = some none) (i : IntOp X.K C op l r)
    (F : FnOk X.prog X.w X.K X.mg X.base CX n l fd ps sp) (hr : Room n X.A) (hb : Binds X.K fd ps []) (hx : Passes CX X E) : PIp X op (rIns C sp E) := by
  intro pins s σ H x y v u Q I rx ry h
  obtain ⟨a, dx, fs, rfl, ha, hy, q⟩ := h
  obtain ⟨rc, e1, e2⟩ := i.rc
  obtain ⟨fo, h1⟩ := i.h1
  obtain ⟨ro, h2⟩ := i.h2
  obtain ⟨cd, c1, c2⟩ := mr.at_
  cases (show v = Value.ref a from rx)
  obtain ⟨od, J⟩ := inst_at I ha
  rcases hy with ⟨j, rfl⟩ | ⟨b, dy, gs, rfl, hb'⟩
  · obtain ⟨t, rfl⟩ := (show ∃ t, u = Value.int j t from ry)
    exact ibin_ty I.kIn J rfl c1 c2 i1 i2 i.ml.at_ i.ml.fn e1 e2 h1 h2 i.hs (run_two F hr hb hx I rel_ref rel_int q)
  · cases (show u = Value.ref b from ry)
    obtain ⟨od', J'⟩ := inst_at I hb'
    exact ibin_same I.kIn J J' c1 c2 i1 i2 i.ml.at_ i.ml.fn (run_two F hr hb hx I rel_ref rel_ref q)
end
end AT

end

section
namespace AT
open PySem PySem.Spec PyProof.Rows L2
section
variable {X : Cx} {e : Expr} {es : List Expr} {ta : TA} {p1 p2 pos : Pos} {B : Addr} {mc : Value} {x : Str}
/-- B.__init__(self, ..), B an own class over ValueError without an __init__ of its own -/
theorem pe_clsinit {pl : Sem Bool} (hg : Gl X x) (hm : X.mg x = some (.ref B)) (r : ClX.CRead X.K B mc) (hv : PySem.W.findCls X.K (.ref B) mc "__init__" = some (.val (.builtin "ValueError.__init__"))) (ha : PA X (e :: es) ta)
    (hd : (x == ("__debug__" : Str)) = false := by decide)
    (hcall : eval (.Call (.Attribute (.Name x p1) "__init__" p2) (e :: es) [] pos) X.env = (eval (.Name x p1) X.env >>= fun ov => standAt p2.atName >>= fun _ => holding [ov] (getMethod ov "__init__" pl) >>= fun q =>
      callWith pos q.1 q.2 (backTo pos (starEach (e :: es) X.env)) (backToKw pos (keywordEach [] X.env))) := by rfl)
    (hst : starEach (e :: es) X.env = (false, eval e X.env) :: starEach es X.env := by rfl) (hnp : (backTo pos (starEach es X.env)).any (·.1) = false := by rfl) :
    PE X (.Call (.Attribute (.Name x p1) "__init__" p2) (e :: es) [] pos) (tVeI X.K ta) := by
  constructor
  intro pins s σ H Q I h
  refine PySem.W.methodCall_KW (ld_glob I hg hm ?_ hd) hcall
  refine PySem.W.method_cls I.kIn r.ga (PySem.W.cls_value I.kIn r.rd hv rfl ?_)
  show wpAny _ _ (callWith pos (Value.builtin "ValueError.__init__") [] (backTo pos (starEach (e :: es) X.env)) []) _ _ _
  refine PyProof.Rows.callWith_method1 (thn (ha.run pos pins _ σ H _ (I.tok _) h) fun us s1 q1 => ?_) hst hnp
  obtain ⟨vs, H1, I1, r1, a, C, ws, rfl, hl, T, ea, q⟩ := q1
  cases r1 with
  | @cons _ u0 _ ur ra rw' =>
    obtain rfl : u0 = Value.ref a := ra
    refine oinit_ok T I1 ea ?_ fun s' J => ⟨.non, H1, J, rfl, q⟩
    rw [← Paired.length rw', sizeLine_eq]
    omega
end
end AT

end

section
/-! Steps of a reading, one by one. -/
namespace AT
open PySem PySem.Spec PyProof.Rows L2
abbrev rNewL (xs : List V) : Hp → VK → Prop := fun H Q => xs.length ≤ sizeLine ∧ ∀ p, H p = none → Q (.ref p) (upd H p (.lst xs))
abbrev rNewT (xs : List V) : Hp → VK → Prop := fun H Q => xs.length ≤ sizeLine ∧ ∀ p, H p = none → Q (.ref p) (upd H p (.tup xs))
/-- all that stood stands -/
abbrev Ext (H H' : Hp) : Prop := Same H H'
theorem Ext.new {H : Hp} {p : Addr} {o : HO} (h : H p = none) : Ext H (upd H p o) := fun b u e => by rw [upd_ne (ne_of_none e h)]; exact e
theorem Ext.mut {H H' : Hp} {p : Addr} {o : HO} (e : Ext H H') (h : H p = none) : Ext H (upd H' p o) := fun b u z => by rw [upd_ne (ne_of_none z h)]; exact e b u z
theorem Ext.t {H H1 H2 : Hp} (a : Ext H H1) (b : Ext H1 H2) : Ext H H2 := Same.trans a b
theorem Ext.fresh {H H' : Hp} (e : Ext H H') {p : Addr} (h : H' p = none) : H p = none := Same.free e h
theorem n_lst {xs : List V} {H : Hp} {Q : VK} (z : xs.length ≤ 100000) (k : ∀ p H', H p = none → Ext H H' → H' p = some (.lst xs) → Q (.ref p) H') : rNewL xs H Q := ⟨Nat.le_trans z (by decide), fun p np => k p _ np (Ext.new np) upd_same⟩
theorem n_tup {xs : List V} {H : Hp} {Q : VK} (z : xs.length ≤ 100000) (k : ∀ p H', H p = none → Ext H H' → H' p = some (.tup xs) → Q (.ref p) H') : rNewT xs H Q := ⟨Nat.le_trans z (by decide), fun p np => k p _ np (Ext.new np) upd_same⟩
end AT
namespace AT
open PySem PySem.Spec PyProof.Rows L2
/-- x.f of an instance; x.f = y -/
def rFld (K : PySem.W.Frag) (f : Str) : V → Hp → VK → Prop := fun x H Q => ∃ a C dx fs v, x = .ref a ∧ H a = some (.ins C dx fs) ∧ Cls K C ∧ NoAttr K C f ∧ fs.lookup f = some v ∧ Q v H
def rSFld (K : PySem.W.Frag) (f : Str) : V → V → Hp → (Hp → Prop) → Prop := fun x y H Q => ∃ a C dx fs, x = .ref a ∧ H a = some (.ins C dx fs) ∧ Cls K C ∧ NoAttr K C f ∧ fs.length < 1000 ∧ Q (upd H a (.ins C dx (putF f y fs)))
end AT
namespace AT
open PySem PySem.Spec PyProof.Rows L2
section
variable {K : PySem.W.Frag} {σ : L2.St} {H : Hp} {Q : VK} {tl : TE} {ta : TA} {R : It → Hp → Prop} {a : Addr} {xs : List V} {j i : Int} {x c : V} {t u : Value} {b : Bool} {g : TGs} {tg : TG} {QS : L2.St → Hp → Prop}
theorem w_iList (h : tl σ H fun x H1 => ∃ a, x = .ref a ∧ (∃ xs, SqL K H1 a xs) ∧ R (Itl K a) H1) : iList K tl σ H R := h
theorem w_itL (l : SqL K H a xs) (h : R (Itl K a) H) : ∃ a', V.ref a = .ref a' ∧ (∃ xs, SqL K H a' xs) ∧ R (Itl K a') H := ⟨a, rfl, ⟨xs, l⟩, h⟩
theorem w_iTup (h : tl σ H fun x H1 => ∃ a, x = .ref a ∧ (∃ xs, SqT K H1 a xs) ∧ R (Itt K a) H1) : iTup K tl σ H R := h
theorem w_itT (l : SqT K H a xs) (h : R (Itt K a) H) : ∃ a', V.ref a = .ref a' ∧ (∃ xs, SqT K H a' xs) ∧ R (Itt K a') H := ⟨a, rfl, ⟨xs, l⟩, h⟩
theorem w_iRng1 (h : ta σ H fun vs H1 => ∃ j : Int, vs = [.int j] ∧ -(2 ^ 62) ≤ j ∧ j < 2 ^ 62 ∧ R (Itr 0 j.toNat) H1) : iRng1 ta σ H R := h
theorem w_itR1 (h1 : -(2 ^ 62) ≤ j) (h2 : j < 2 ^ 62) (h : R (Itr 0 j.toNat) H) : ∃ j' : Int, [V.int j] = [.int j'] ∧ -(2 ^ 62) ≤ j' ∧ j' < 2 ^ 62 ∧ R (Itr 0 j'.toNat) H := ⟨j, rfl, h1, h2, h⟩
theorem w_gname {k : Nat} {v : V} (h : QS (σ.set k (some v)) H) : gName k v σ H QS := h
/-- isinstance -/
theorem w_isi (k : ClsV c u) (ty : TyX K H x t) (e : PySem.W.kitOne K t u = some b) (h : Q (.bl b) H) : rIsi K [x, c] H Q := ⟨x, c, t, u, b, rfl, k, ty, e, h⟩
theorem w_intInt (h : Q (.bl true) H) : rIsi K [.int i, .ty "int"] H Q := w_isi (.ty "int") (.base (.int i)) (kit_ty (by decide +kernel)) h
theorem w_intBool (h : Q (.bl false) H) : rIsi K [.int i, .ty "bool"] H Q := w_isi (.ty "bool") (.base (.int i)) (kit_ty (by decide +kernel)) h
theorem w_boolBool {k : Bool} (h : Q (.bl true) H) : rIsi K [.bl k, .ty "bool"] H Q := w_isi (.ty "bool") (.base (.bl k)) (kit_ty (by decide +kernel)) h
theorem kit_own {C : Addr} (h1 : PySem.W.isClsIn K C = true) (h2 : PySem.W.typeIn K (.ref C) = some (.type "type")) (h3 : PySem.W.subIn K t (.ref C) = some b) (hn : (t == .ref C) = false) : PySem.W.kitOne K t (.ref C) = some b := by
  have h1' : (PySem.W.clsIn K C).isSome = true := h1
  unfold PySem.W.kitOne
  rw [hn, if_neg (by decide)]
  simp only [PySem.W.kitCls]
  rw [h1', h2, if_pos (by simp)]
  exact h3
theorem kit_insTy {C : Addr} {T : String} (h3 : PySem.W.subIn K (.ref C) (.type T) = some b) (hm : PySem.W.kitMeta T = true) : PySem.W.kitOne K (.ref C) (.type T) = some b := by
  unfold PySem.W.kitOne
  rw [if_neg (by simp)]
  simp only [PySem.W.kitCls]
  rw [if_pos hm]
  exact h3
theorem kit_self {C : Addr} : PySem.W.kitOne K (.ref C) (.ref C) = some true := by
  unfold PySem.W.kitOne
  rw [if_pos (by simp)]
end
end AT
namespace AT
open PySem PySem.Spec PyProof.Rows L2
/-- a while by what holds ahead of each turn and a measure -/
theorem w_while {c : TT} {tb : TS} {D : Ends} {σ : L2.St} {H : Hp} (Pv : L2.St → Hp → Prop) (μ : L2.St → Hp → Nat) (h0 : Pv σ H)
    (hs : ∀ σ H, Pv σ H → c σ H fun b H1 => if b = true then ∃ N : L2.St → Hp → Prop, (∀ σ' H', N σ' H' → ∃ m', m' < μ σ H ∧ m' = μ σ' H' ∧ Pv σ' H') ∧ tb { D with nx := N, ct := N, bk := D.nx } σ H1 else D.nx σ H1) : tWhile c tb D σ H := by
  refine ⟨fun m σ H => m = μ σ H ∧ Pv σ H, ⟨_, rfl, h0⟩, ?_⟩
  rintro m σ H ⟨rfl, p⟩
  exact hs σ H p
theorem w_wturn {Pv : L2.St → Hp → Prop} {μ : L2.St → Hp → Nat} {m : Nat} {D : Ends} {tb : TS} {σ : L2.St} {H : Hp}
    (h : tb { D with nx := fun σ' H' => μ σ' H' < m ∧ Pv σ' H', ct := fun σ' H' => μ σ' H' < m ∧ Pv σ' H', bk := D.nx } σ H) :
    ∃ N : L2.St → Hp → Prop, (∀ σ' H', N σ' H' → ∃ m', m' < m ∧ m' = μ σ' H' ∧ Pv σ' H') ∧ tb { D with nx := N, ct := N, bk := D.nx } σ H := ⟨_, fun _ _ z => ⟨_, z.1, rfl, z.2⟩, h⟩
end AT
namespace AT
open PySem PySem.Spec PyProof.Rows L2
def rAbs : List V → Hp → VK → Prop := fun xs H Q => ∃ i, xs = [.int i] ∧ Q (.int (if i < 0 then -i else i)) H
theorem call_absR {X : Cx} : CallR X (.builtin "abs") rAbs := call_abs
def rInt1 : List V → Hp → VK → Prop := fun xs H Q => (∃ i, xs = [.int i] ∧ Q (.int i) H) ∨ ∃ k, xs = [.bl k] ∧ Q (.int (if k then 1 else 0)) H
theorem call_intR {X : Cx} : CallR X (.type "int") rInt1 := call_int1
def rLenS (K : PySem.W.Frag) : List V → Hp → VK → Prop := fun xs H Q => ∃ p ys, xs = [.ref p] ∧ (SqL K H p ys ∨ SqT K H p ys) ∧ Q (.int ys.length) H
theorem call_lenR {X : Cx} : CallR X (.builtin "len") (rLenS X.K) := call_len_seq
section
variable {K : PySem.W.Frag} {H : Hp} {Q : VK} {a : Int} {p : Addr} {xs : List V} {v x : V} {i : Int}
theorem w_abs (h : Q (.int (a.natAbs : Int)) H) : rAbs [.int a] H Q := ⟨a, rfl, by
  have e : (if a < 0 then -a else a) = (a.natAbs : Int) := by split <;> omega
  rw [e]; exact h⟩
theorem w_int (h : Q (.int a) H) : rInt1 [.int a] H Q := .inl ⟨a, rfl, h⟩
theorem w_len (l : SqL K H p xs) (h : Q (.int xs.length) H) : rLenS K [.ref p] H Q := ⟨p, xs, rfl, .inl l, h⟩
theorem w_lenT (l : SqT K H p xs) (h : Q (.int xs.length) H) : rLenS K [.ref p] H Q := ⟨p, xs, rfl, .inr l, h⟩
theorem w_ixL (l : SqL K H p xs) (e : atI xs i = some v) (h : Q v H) : rIxL K (.ref p) (.int i) H Q := ⟨p, xs, i, v, rfl, rfl, l, e, h⟩
theorem w_ixT (l : SqT K H p xs) (e : atI xs i = some v) (h : Q v H) : rIxT K (.ref p) (.int i) H Q := ⟨p, xs, i, v, rfl, rfl, l, e, h⟩
theorem w_app (l : H p = some (.lst xs)) (z : xs.length < 100000) (h : Q .non (upd H p (.lst (xs ++ [x])))) : rAppend (.ref p) [x] H Q := ⟨p, xs, x, rfl, rfl, l, Nat.lt_of_lt_of_le z (by decide), h⟩
end
end AT
namespace AT
open PySem PySem.Spec PyProof.Rows L2
/-- floor division by any divisor below 2 ^ 9000 but 0 -/
theorem op_fdivG {X : Cx} : OpR X (binaryOp .FloorDiv) (rI (fun _ j => j ≠ 0 ∧ j.natAbs.log2 < 9000) fun i j => .int (i.fdiv j)) := opI fun _ _ _ _ _ _ _ hc q => floordiv_int hc.1 q (.inl (PyProof.noPylong_of_log2 hc.2))
end AT
namespace AT
open PySem PySem.Spec PyProof.Rows L2
section
variable {K : PySem.W.Frag} {σ : L2.St} {H : Hp} {Q : VK} {D : Ends} {te ta tb : TE} {t u : TS} {c d : TT} {v x y : V} {i j : Nat} {r : R2} {QB : Bool → Hp → Prop} {QA : List V → Hp → Prop} {tr : TA} {tl : TA}
theorem w_seq (h : t { D with nx := u D } σ H) : tSeq t u D σ H := h
theorem w_next (h : D.nx σ H) : tNext D σ H := h
theorem w_if (h : c σ H fun b H1 => if b = true then t D σ H1 else u D σ H1) : tIfS c t u D σ H := h
theorem w_set (h : te σ H fun x H1 => D.nx (σ.set i (some x)) H1) : tAsg te (gName i) D σ H := h
theorem w_par (h : tr σ H fun vs H1 => ∃ v w, vs = [v, w] ∧ D.nx ((σ.set i (some v)).set j (some w)) H1) : tPar i j tr D σ H := h
theorem w_two {P : V → V → Prop} (h : P x y) : ∃ v w, [x, y] = [v, w] ∧ P v w := ⟨x, y, rfl, h⟩
theorem w_drop (h : te σ H fun _ H1 => D.nx σ H1) : tDrop te D σ H := h
theorem w_ret (h : te σ H D.rt) : tRet te D σ H := h
theorem w_retN (h : D.rt .non H) : tRetN D σ H := h
theorem w_var (e : σ[i]? = some (some v)) (h : Q v H) : tVar i σ H Q := ⟨v, e, h⟩
theorem w_aug {ti : TIp} (e : σ[i]? = some (some x)) (h : te σ H fun y H1 => ti x y H1 fun z H2 => D.nx (σ.set i (some z)) H2) : tAug i te ti D σ H := ⟨x, e, h⟩
theorem w_c (h : Q v H) : tC v σ H Q := h
theorem w_test (h : te σ H fun x H' => ∃ k, x = .bl k ∧ QB k H') : tTest te σ H QB := h
theorem w_B (h : te σ H fun x H' => ∃ k, x = .bl k ∧ QB k H') : tB te σ H QB := h
theorem w_bl {k : Bool} (h : QB k H) : ∃ k', V.bl k = .bl k' ∧ QB k' H := ⟨k, rfl, h⟩
theorem w_op (h : ta σ H fun x H1 => tb σ H1 fun y H2 => r x y H2 Q) : tOp r ta tb σ H Q := h
theorem w_un {ru : V → Hp → VK → Prop} (h : ta σ H fun x H1 => ru x H1 Q) : tUn ru ta σ H Q := h
theorem w_rU {g : Int → V} {a : Int} (h : Q (g a) H) : rU g (.int a) H Q := ⟨a, rfl, h⟩
theorem w_rI0 {g : Int → Int → V} {a b : Int} (h : Q (g a b) H) : rI0 g (.int a) (.int b) H Q := ⟨a, b, rfl, rfl, h⟩
theorem w_rI {C : Int → Int → Prop} {g : Int → Int → V} {a b : Int} (hc : C a b) (h : Q (g a b) H) : rI C g (.int a) (.int b) H Q := ⟨a, b, rfl, rfl, hc, h⟩
theorem w_pow {g : Int → Int → V} {a b : Int} (c : 0 ≤ b ∧ b ≤ 1000000 ∧ a.natAbs < 2 ^ 64) (h : Q (g a b) H) : rI CPow g (.int a) (.int b) H Q := ⟨a, b, rfl, rfl, c, h⟩
theorem w_mod {g : Int → Int → V} {a b : Int} (c : 0 < b) (h : Q (g a b) H) : rI (fun _ j => 0 < j) g (.int a) (.int b) H Q := ⟨a, b, rfl, rfl, c, h⟩
theorem w_eqI {a b : Int} (h : Q (.bl (decide (a = b))) H) : rEq (.int a) (.int b) H Q := ⟨rfl, by
  have e : decide (V.int a = V.int b) = decide (a = b) := by rw [dec_int, Bool.eq_iff_iff, beq_iff_eq, decide_eq_true_iff]
  rw [e]
  exact h⟩
theorem w_neI {a b : Int} (h : Q (.bl (!decide (a = b))) H) : rNe (.int a) (.int b) H Q := ⟨rfl, by
  have e : decide (V.int a = V.int b) = decide (a = b) := by rw [dec_int, Bool.eq_iff_iff, beq_iff_eq, decide_eq_true_iff]
  rw [e]
  exact h⟩
theorem w_chain {r' : R2} {tc : TE} (h : ta σ H fun x H1 => tb σ H1 fun y H2 => r x y H2 fun z H3 => ∃ k, z = .bl k ∧ (if k = true then tc σ H3 fun w' H4 => r' y w' H4 Q else Q (.bl false) H3)) : tChain r r' ta tb tc σ H Q := h
theorem w_blV {k : Bool} {P : Bool → Prop} (h : P k) : ∃ k', V.bl k = .bl k' ∧ P k' := ⟨k, rfl, h⟩
theorem w_and (h : c σ H fun b H1 => if b = true then d σ H1 QB else QB false H1) : tAnd c d σ H QB := h
theorem w_or (h : c σ H fun b H1 => if b = true then QB true H1 else d σ H1 QB) : tOr c d σ H QB := h
theorem w_not (h : c σ H fun b H1 => QB (!b) H1) : tNot c σ H QB := h
theorem w_andV (h : ta σ H fun x H1 => ∃ k, x = .bl k ∧ if k = true then tb σ H1 Q else Q (.bl false) H1) : tAndV ta tb σ H Q := h
theorem w_orV (h : ta σ H fun x H1 => ∃ k, x = .bl k ∧ if k = true then Q (.bl true) H1 else tb σ H1 Q) : tOrV ta tb σ H Q := h
theorem w_notV (h : ta σ H fun x H1 => ∃ k, x = .bl k ∧ Q (.bl (!k)) H1) : tNotV ta σ H Q := h
theorem w_ifE (h : c σ H fun b H1 => if b = true then ta σ H1 Q else tb σ H1 Q) : tIf c ta tb σ H Q := h
theorem w_nil (h : QA [] H) : tNil σ H QA := h
theorem w_cons (h : te σ H fun x H1 => tl σ H1 fun xs H2 => QA (x :: xs) H2) : tCons te tl σ H QA := h
theorem w_call {sp : Sp} {dvs : List V} {E : XK} (h : tr σ H fun vs H1 => sp (vs ++ dvs) H1 Q E) : tCall sp dvs E tr σ H Q := h
theorem w_callS {sp : Sp} {E : L2.St → XK} (h : tr σ H fun vs H1 => sp vs H1 Q (E σ)) : tCallS sp E tr σ H Q := h
theorem w_cb {rc : List V → Hp → VK → Prop} (h : tr σ H fun vs H1 => rc vs H1 Q) : tCB rc tr σ H Q := h
theorem w_fld {f : Str} (h : ta σ H fun x H1 => rFld K f x H1 Q) : tFld K ta f σ H Q := h
theorem w_sfld {f : Str} (h : tb σ H fun y H1 => ta σ H1 fun x H2 => rSFld K f x y H2 (D.nx σ)) : sFld K ta tb f D σ H := h
theorem w_lst (h : tr σ H fun xs H1 => rNewL xs H1 Q) : tLst tr σ H Q := h
theorem w_tup (h : tr σ H fun xs H1 => rNewT xs H1 Q) : tTup tr σ H Q := h
theorem w_bm {T : String} {rm : V → List V → Hp → VK → Prop} (h : ta σ H fun x H1 => tyV K T x H1 ∧ tr σ H1 fun xs H2 => rm x xs H2 Q) : tBM K T rm ta tr σ H Q := h
theorem w_for {wi : TI} {g : TG} (h : wi σ H fun J H1 => ∃ W : Nat → Nat → L2.St → Hp → Prop, (∃ m, W 0 m σ H1) ∧ ∀ i m σ H, W i m σ H →
  (J.stop i H ∧ D.nx σ H) ∨ (J.go i H ∧ ∃ N : L2.St → Hp → Prop, (∀ σ' H', N σ' H' → ∃ m', m' < m ∧ W (i + 1) m' σ' H') ∧ ∀ x H', J.yld i H x H' → g x σ H' fun σ2 H2 => t { D with nx := N, ct := N, bk := D.nx } σ2 H2)) : tFor wi g t D σ H := h
end
section
variable {p q : Prop} [Decidable p] {A B : Prop} {b : Bool}
theorem i_dec (h1 : p → A) (h2 : ¬ p → B) : if decide p = true then A else B := by
  by_cases hp : p
  · rw [decide_eq_true hp]; exact h1 hp
  · rw [decide_eq_false hp]; exact h2 hp
theorem i_ndec (h1 : p → B) (h2 : ¬ p → A) : if (!decide p) = true then A else B := by
  by_cases hp : p
  · rw [decide_eq_true hp]; exact h1 hp
  · rw [decide_eq_false hp]; exact h2 hp
theorem i_yes (hp : b = true) (h : A) : if b = true then A else B := by rw [hp]; exact h
theorem i_no (hp : b = false) (h : B) : if b = true then A else B := by rw [hp]; exact h
end
end AT
namespace AT
open PySem PySem.Spec PyProof.Rows L2
theorem w_mulW {H : Hp} {Q : VK} {i j : Int} {m n : Nat} (h1 : i.natAbs < 2 ^ m) (h2 : j.natAbs < 2 ^ n) (h0 : 0 < m) (h3 : 0 < n) (h4 : m + n ≤ 1000000) (k : Q (.int (i * j)) H) : rI CMulW (fun i j => .int (i * j)) (.int i) (.int j) H Q :=
  ⟨i, j, rfl, rfl, wide_mul h1 h2 h0 h3 h4, k⟩
end AT
namespace L2
open PySem PySem.Spec PyProof.Rows
theorem Same.seqT {K : PySem.W.Frag} {H H' : Hp} {a : Addr} {xs : List V} (e : Same H H') (h : SqT K H a xs) : SqT K H' a xs := by
  rcases h with (h | ⟨o, h⟩) | h
  · exact .inl (.inl (e _ _ h))
  · exact .inl (.inr ⟨o, e _ _ h⟩)
  · exact .inr h
end L2

end

section
/-! Making an object, methods and operators in a try: what is raised is wished for at the slots as they stand. -/
namespace AT
open PySem PySem.Spec PyProof.Rows L2
/-- C(e, ..) in a try -/
def rMakeS (C : Addr) (sp : Sp) (dvs : List V) (E : XK) : List V → Hp → VK → Prop := fun vs H1 Q => ∀ x dx, H1 x = none → H1 dx = none → dx ≠ x →
  sp (.ref x :: (vs ++ dvs)) (upd (upd H1 dx (.own x)) x (.ins C dx [])) (fun v H2 => v = .non ∧ Q (.ref x) H2) E
def tMakeS (C : Addr) (sp : Sp) (dvs : List V) (E : L2.St → XK) (t : TA) : TE := fun σ H Q => t σ H fun vs H1 => rMakeS C sp dvs (E σ) vs H1 Q
section
variable {X : Cx} {CX : CXT} {k : Nat} {f C : Addr} {fd : FuncData} {ps : List Str} {sp : Sp} {E : L2.St → XK} {x : Str} {p pos : Pos} {e : Expr} {es : List Expr} {t : TA} {dvs : List V} {ds : List Value}
theorem run_makeS {pins : List (Addr × Obj)} {σ : L2.St} {H : Hp} {s : Shared} {Q : VK} {us : List Value} {vs : List V} (M : Mk X.K C f) (F : FnOk X.prog X.w X.K X.mg X.base CX k f fd ps sp) (hr : Room (k + 1) X.A) (hb : Binds X.K fd ps ds) (hd : Vals dvs ds)
    (hx : PassesAt CX X σ (E σ)) (I : Inv X pins σ H s) (r : Vals vs us) (h : rMakeS C sp dvs (E σ) vs H Q) : wpAny (model X.prog X.w) X.A (call (.ref C) us) (EP X pins σ Q) X.xe s := by
  have hq := h (s.heap.objs.size + 1) s.heap.objs.size (I.hok.fresh (Nat.le_succ _)) (I.hok.fresh (Nat.le_refl _)) (Nat.ne_of_lt (Nat.lt_succ_self _))
  have J := Inv.made (C := C) I
  have r2 : Vals (V.ref (s.heap.objs.size + 1) :: (vs ++ dvs)) (Value.ref (s.heap.objs.size + 1) :: (us ++ ds)) := Paired.cons rfl (Vals.append r hd)
  have hl : (Value.ref (s.heap.objs.size + 1) :: us ++ ds).length = ps.length := (Vals.length r2).symm.trans (F.len _ _ _ _ hq)
  have bb := hb _ (Value.ref (s.heap.objs.size + 1) :: us) J.kIn hl
  refine wpAny_call (make_map (f := f) I.kIn M.makes M.init (beq_iff_eq.mp M.fn) (codeAny_mono (F.run _ X.stack _ _ ⟨Value.ref (s.heap.objs.size + 1) :: us, []⟩ (Value.ref (s.heap.objs.size + 1) :: (us ++ ds)) _ _ (E σ)
    (hr.make C us []) (J.env0.make C us []) bb r2 hq) fun q s1 z => ?_))
  cases q with
  | error er => exact hx pins _ _ er s1 J z
  | ok fl =>
    cases fl with
    | ret u =>
      obtain ⟨v, H2, I2, rv, ev, q2⟩ := J.after z
      subst ev
      exact ⟨rv, V.ref (s.heap.objs.size + 1), H2, I2, rfl, q2⟩
    | next => exact (show False from z).elim
    | brk => exact (show False from z).elim
    | cont => exact (show False from z).elim
theorem pe_makeS (M : Mk X.K C f) (F : FnOk X.prog X.w X.K X.mg X.base CX k f fd ps sp) (hr : Room (k + 1) X.A) (hg : Gl X x) (hm : X.mg x = some (.ref C)) (hb : Binds X.K fd ps ds) (hd : Vals dvs ds) (hx : ∀ σ, PassesAt CX X σ (E σ)) (ha : PA X (e :: es) t)
    (hdb : (x == ("__debug__" : Str)) = false := by decide) (hst : starEach (e :: es) X.env = (false, eval e X.env) :: starEach es X.env := by rfl) (hnp : (backTo pos (starEach es X.env)).any (·.1) = false := by rfl) :
    PE X (.Call (.Name x p) (e :: es) [] pos) (tMakeS C sp dvs E t) := by
  constructor
  intro pins s σ H Q I h
  refine wpAny_Call_Name_kw (ld_glob I hg hm ?_ hdb)
  refine PySem.W.callWith_K (h₀ := X.base) I.ok.mod.kin M.kp (thn (ha.run pos pins s σ H _ I h) fun us s1 q1 => ?_) hst hnp
  obtain ⟨vs, H1, I1, r, q⟩ := q1
  exact ⟨I1.kIn, run_makeS M F hr hb hd (hx σ) I1 r q⟩
/-- C(e, ..) with the made part named -/
theorem pe_makeR {E1 : XK} (M : Mk X.K C f) (F : FnOk X.prog X.w X.K X.mg X.base CX k f fd ps sp) (hr : Room (k + 1) X.A) (hg : Gl X x) (hm : X.mg x = some (.ref C)) (hb : Binds X.K fd ps ds) (hd : Vals dvs ds) (hx : Passes CX X E1) (ha : PA X (e :: es) t)
    (hdb : (x == ("__debug__" : Str)) = false := by decide) (hst : starEach (e :: es) X.env = (false, eval e X.env) :: starEach es X.env := by rfl) (hnp : (backTo pos (starEach es X.env)).any (·.1) = false := by rfl) :
    PE X (.Call (.Name x p) (e :: es) [] pos) (tMakeS C sp dvs (fun _ => E1) t) := pe_makeS M F hr hg hm hb hd (fun σ pins H s e s' I c => hx pins σ H s e s' I c) ha hdb hst hnp
theorem w_makeS {σ : L2.St} {H : Hp} {Q : VK} (h : t σ H fun vs H1 => rMakeS C sp dvs (E σ) vs H1 Q) : tMakeS C sp dvs E t σ H Q := h
end
theorem exm_own {K : PySem.W.Frag} {D C : Addr} {b : Bool} (h1 : PySem.W.subIn K (.ref C) (.type "BaseException") = some true) (h2 : PySem.W.isClsIn K C = true) (h3 : PySem.W.typeIn K (.ref C) = some (.type "type")) (h4 : PySem.W.subIn K (.ref D) (.ref C) = some b) :
    PySem.W.exmOne K (.ref D) (.ref C) = some b := by
  have h2' : (PySem.W.clsIn K C).isSome = true := h2
  unfold PySem.W.exmOne
  rw [h1, if_pos (by simp)]
  simp only [PySem.W.kitCls]
  rw [h2', h3, if_pos (by simp)]
  exact h4
/-- e.f of a caught error -/
abbrev rXf (a : Addr) (cls : Value) (d : Option Addr) (C : Addr) (f : Str) : V → Hp → VK → Prop := fun x H1 Q => x = .ref a ∧ cls = .ref C ∧ ∃ (dd : Addr) (fs : List (Str × V)) (v : V), d = some dd ∧ H1 dd = some (.xd fs) ∧ fs.lookup f = some v ∧ Q v H1
section
variable {σ : L2.St} {H : Hp} {Q : VK} {a C dd : Addr} {cls : Value} {d : Option Addr} {f g : Str} {te : TE} {fs : List (Str × V)} {v w : V} {K : PySem.W.Frag} {p q : Addr}
theorem w_xf (h : te σ H fun x H1 => rXf a cls d C f x H1 Q) : tXf a cls d C f te σ H Q := h
theorem n_xf (hd : H dd = some (.xd fs)) (hl : fs.lookup f = some v) (k : Q v H) : rXf a (.ref C) (some dd) C f (.ref a) H Q := ⟨rfl, rfl, dd, fs, v, rfl, hd, hl, k⟩
theorem lk_1 {r : List (Str × V)} : List.lookup f ((f, v) :: r) = some v := by simp
theorem lk_2 {r : List (Str × V)} (h : (g == f) = false) : List.lookup g ((f, v) :: (g, w) :: r) = some w := by
  rw [List.lookup_cons, h]
  simp
/-- == of lists of data -/
theorem n_eqD {d e : PyData} {x y : V} (h1 : Dp K H x d) (h2 : Dp K H y e) (s1 : SeqAt.shaped d = true) (s2 : SeqAt.shaped e = true) (k : Q (.bl (PyData.eqv d e)) H) : rEqD K x y H Q := ⟨d, e, h1, h2, s1, s2, k⟩
theorem n_neD {d e : PyData} {x y : V} (h1 : Dp K H x d) (h2 : Dp K H y e) (s1 : SeqAt.shaped d = true) (s2 : SeqAt.shaped e = true) (k : Q (.bl (!PyData.eqv d e)) H) : rNeD K x y H Q := ⟨d, e, h1, h2, s1, s2, k⟩
/-- is None, is not None -/
theorem n_isN {x : V} (k : Q (.bl (decide (x = .non))) H) : L2.rIsN x .non H Q := ⟨rfl, k⟩
theorem n_notN {x : V} (k : Q (.bl (!decide (x = .non))) H) : L2.rNotN x .non H Q := ⟨rfl, k⟩
end
end AT

end

section
/-! Fractions in lowest terms: plain arithmetic. -/
namespace AT
/-- smaller than 2 ^ n -/
def Bn (n : Nat) (i : Int) : Prop := i.natAbs < 2 ^ n
instance {n : Nat} {i : Int} : Decidable (Bn n i) := inferInstanceAs (Decidable (i.natAbs < 2 ^ n))
theorem Bn.mono {m n : Nat} {i : Int} (h : Bn m i) (l : m ≤ n) : Bn n i := Nat.lt_of_lt_of_le h (Nat.pow_le_pow_right (by decide) l)
theorem Bn.neg {n : Nat} {i : Int} (h : Bn n i) : Bn n (-i) := by unfold Bn at *; rw [Int.natAbs_neg]; exact h
theorem Bn.mul {m n : Nat} {i j : Int} (h : Bn m i) (l : Bn n j) : Bn (m + n) (i * j) := by
  unfold Bn at *
  rw [Int.natAbs_mul, Nat.pow_add]
  exact Nat.mul_lt_mul'' h l
theorem Bn.add {n : Nat} {i j : Int} (h : Bn n i) (l : Bn n j) : Bn (n + 1) (i + j) := by
  unfold Bn at *
  have := Int.natAbs_add_le i j
  rw [Nat.pow_succ]
  omega
theorem Bn.sub {n : Nat} {i j : Int} (h : Bn n i) (l : Bn n j) : Bn (n + 1) (i - j) := by
  rw [Int.sub_eq_add_neg]
  exact h.add l.neg
theorem Bn.le {n : Nat} {i j : Int} (h : Bn n j) (l : i.natAbs ≤ j.natAbs) : Bn n i := Nat.lt_of_le_of_lt l h
theorem Bn.pos {n : Nat} {i : Int} (h : Bn n i) : 0 ≤ n := Nat.zero_le _
theorem Bn.log {n : Nat} {i : Int} (h : Bn n i) (h0 : 0 < n) : i.natAbs.log2 < n := by
  unfold Bn at h
  by_cases hz : i.natAbs = 0
  · rw [hz]; simpa using h0
  · exact (Nat.log2_lt hz).mpr h
theorem Bn.log' {n m : Nat} {i : Int} (h : Bn n i) (h0 : n < m) : i.natAbs.log2 < m := Bn.log (h.mono (Nat.le_of_lt h0)) (by omega)
theorem Bn.nat {n k : Nat} (h : k < 2 ^ n) : Bn n (k : Int) := by unfold Bn; simpa using h
theorem Bn.abs {n : Nat} {i : Int} (h : Bn n i) : Bn n (i.natAbs : Int) := by unfold Bn at *; simpa using h

/-! ### one step of the common divisor -/
theorem rest_eq {a b : Int} (hb : 0 < b) : a - b * (a.fdiv b) = a % b := by
  rw [Int.fdiv_eq_ediv_of_nonneg a (by omega)]
  have := Int.emod_add_mul_ediv a b
  omega
theorem gcd_step {a b : Int} (hb : 0 < b) : Int.gcd b (a - b * (a.fdiv b)) = Int.gcd a b := by
  have e : a - b * (a.fdiv b) = a + b * (-(a.fdiv b)) := by rw [Int.mul_neg]; omega
  rw [e, Int.gcd_comm, Int.gcd_add_mul_left_left]
theorem abs_if (i : Int) : (if i < 0 then -i else i) = (i.natAbs : Int) := by split <;> omega

/-! ### lowest terms -/
theorem fdiv_dvd {a g : Int} (hg : g ≠ 0) (h : g ∣ a) : a.fdiv g * g = a := by
  exact Int.fdiv_mul_cancel_of_dvd h
theorem fdiv_eq {a g k : Int} (hg : g ≠ 0) (h : a = k * g) : a.fdiv g = k := by
  subst h
  exact Int.mul_fdiv_cancel k hg
/-- the part that is divided out -/
def part (t b : Int) : Int := if b < 0 then -(Int.gcd t b : Int) else (Int.gcd t b : Int)
theorem part_ne {t b : Int} (hb : b ≠ 0) : part t b ≠ 0 := by
  have h : Int.gcd t b ≠ 0 := fun e => hb (Int.gcd_eq_zero_iff.mp e).2
  unfold part
  split <;> omega
theorem num_eq {t b : Int} (hb : b ≠ 0) : t.fdiv (part t b) = (Rat.divInt t b).num := by
  obtain ⟨k, hk⟩ : ((Int.gcd t b : Nat) : Int) ∣ t := Int.gcd_dvd_left t b
  have h : (Int.gcd t b : Int) ≠ 0 := by
    have : Int.gcd t b ≠ 0 := fun e => hb (Int.gcd_eq_zero_iff.mp e).2
    omega
  rw [Rat.num_divInt, Int.gcd_comm b t]
  unfold part
  split
  · rename_i hn
    rw [Int.sign_eq_neg_one_of_neg hn]
    have e1 : t.fdiv (-(Int.gcd t b : Int)) = -k := fdiv_eq (by omega) (by rw [Int.neg_mul_neg, Int.mul_comm]; exact hk)
    rw [e1]
    refine (Int.ediv_eq_of_eq_mul_left h ?_).symm
    rw [Int.neg_mul, Int.one_mul, Int.neg_mul, Int.mul_comm k, ← hk]
  · rename_i hn
    have hp : 0 < b := by omega
    rw [Int.sign_eq_one_of_pos hp, Int.one_mul]
    have e1 : t.fdiv (Int.gcd t b : Int) = k := fdiv_eq h (by rw [Int.mul_comm]; exact hk)
    rw [e1]
    refine (Int.ediv_eq_of_eq_mul_left h ?_).symm
    rw [Int.mul_comm, ← hk]
theorem den_eq {t b : Int} (hb : b ≠ 0) : b.fdiv (part t b) = ((Rat.divInt t b).den : Int) := by
  obtain ⟨k, hk⟩ : ((Int.gcd t b : Nat) : Int) ∣ b := Int.gcd_dvd_right t b
  have h : (Int.gcd t b : Int) ≠ 0 := by
    have : Int.gcd t b ≠ 0 := fun e => hb (Int.gcd_eq_zero_iff.mp e).2
    omega
  rw [Rat.den_divInt, if_neg hb, Int.gcd_comm b t, Int.natCast_ediv]
  unfold part
  split
  · rename_i hn
    have e1 : b.fdiv (-(Int.gcd t b : Int)) = -k := fdiv_eq (by omega) (by rw [Int.neg_mul_neg, Int.mul_comm]; exact hk)
    rw [e1]
    refine (Int.ediv_eq_of_eq_mul_left h ?_).symm
    have : (b.natAbs : Int) = -b := by omega
    rw [this, Int.neg_mul, Int.mul_comm k, ← hk]
  · rename_i hn
    have e1 : b.fdiv (Int.gcd t b : Int) = k := fdiv_eq h (by rw [Int.mul_comm]; exact hk)
    rw [e1]
    refine (Int.ediv_eq_of_eq_mul_left h ?_).symm
    have : (b.natAbs : Int) = b := by omega
    rw [this, Int.mul_comm k, ← hk]
theorem den_pos (q : Rat) : 0 < (q.den : Int) := by have := q.den_pos; omega
theorem gcd_low (q : Rat) : Int.gcd q.num q.den = 1 := q.reduced
/-- as a fraction the two are the same -/
theorem cross {t b : Int} (hb : b ≠ 0) : (Rat.divInt t b).num * b = t * ((Rat.divInt t b).den : Int) := by
  have h1 := num_eq (t := t) hb
  have h2 := den_eq (t := t) hb
  have hp := part_ne (t := t) hb
  have d1 : part t b ∣ t := by
    have := Int.gcd_dvd_left t b
    unfold part
    split
    · exact (Int.neg_dvd).mpr this
    · exact this
  have d2 : part t b ∣ b := by
    have := Int.gcd_dvd_right t b
    unfold part
    split
    · exact (Int.neg_dvd).mpr this
    · exact this
  have e1 := fdiv_dvd hp d1
  have e2 := fdiv_dvd hp d2
  rw [h1] at e1
  rw [h2] at e2
  generalize (Rat.divInt t b).num = n at *
  generalize ((Rat.divInt t b).den : Int) = d at *
  generalize part t b = p at *
  subst e1
  rw [← e2]
  grind
theorem num_le {t b : Int} (hb : b ≠ 0) : (Rat.divInt t b).num.natAbs ≤ t.natAbs := by
  have h1 := num_eq (t := t) hb
  have d1 : part t b ∣ t := by
    have := Int.gcd_dvd_left t b
    unfold part
    split
    · exact (Int.neg_dvd).mpr this
    · exact this
  have e1 := fdiv_dvd (part_ne (t := t) hb) d1
  rw [h1] at e1
  have := part_ne (t := t) hb
  have e2 := congrArg Int.natAbs e1
  rw [Int.natAbs_mul] at e2
  have hpp : 0 < (part t b).natAbs := Int.natAbs_pos.mpr this
  rw [← e2]
  exact Nat.le_mul_of_pos_right _ hpp
theorem den_le {t b : Int} (hb : b ≠ 0) : (Rat.divInt t b).den ≤ b.natAbs := by
  have h1 := den_eq (t := t) hb
  have d1 : part t b ∣ b := by
    have := Int.gcd_dvd_right t b
    unfold part
    split
    · exact (Int.neg_dvd).mpr this
    · exact this
  have e1 := fdiv_dvd (part_ne (t := t) hb) d1
  rw [h1] at e1
  have := part_ne (t := t) hb
  have e2 := congrArg Int.natAbs e1
  rw [Int.natAbs_mul, Int.natAbs_natCast] at e2
  have hpp : 0 < (part t b).natAbs := Int.natAbs_pos.mpr this
  rw [← e2]
  exact Nat.le_mul_of_pos_right _ hpp
end AT
namespace AT
theorem fdiv_abs {a b : Int} (hb : 0 < b) (ha : 0 ≤ a) : (a.fdiv b).natAbs ≤ a.natAbs := by
  rw [Int.fdiv_eq_ediv_of_nonneg a (by omega)]
  have h1 := Int.ediv_nonneg ha (by omega : 0 ≤ b)
  have h2 := Int.ediv_le_self b ha
  omega
end AT
namespace AT
theorem part_bn {n : Nat} {t b : Int} (ht : Bn n t) (hb : Bn n b) (h0 : b ≠ 0) : Bn n (part t b) := by
  have h1 : (Int.gcd t b : Int).natAbs ≤ b.natAbs := by
    rw [Int.natAbs_natCast]
    exact Nat.le_of_dvd (by omega) (Int.gcd_dvd_natAbs_right t b)
  unfold part
  split
  · exact (hb.le h1).neg
  · exact hb.le h1
end AT
namespace AT
theorem bn_of {n : Nat} {m i : Int} (hm : Bn n m) (h1 : -m ≤ i) (h2 : i ≤ m) : Bn n i := hm.le (by omega)
theorem divInt_neg {t b : Int} : Rat.divInt (-t) (-b) = Rat.divInt t b := Rat.neg_divInt_neg t b
theorem divInt_one {t : Int} : Rat.divInt t 1 = (t : Rat) := by rw [Rat.divInt_eq_div]; grind
end AT
namespace AT
theorem qd (q : Rat) : q = Rat.divInt q.num q.den := by rw [Rat.divInt_ofNat, Rat.mkRat_self]
theorem dne (q : Rat) : (q.den : Int) ≠ 0 := by have := q.den_nz; omega
theorem add_eq (q r : Rat) : Rat.divInt (q.num * r.den + r.num * q.den) (q.den * r.den) = q + r := by
  conv => rhs; rw [qd q, qd r, Rat.divInt_add_divInt _ _ (dne q) (dne r)]
theorem sub_eq (q r : Rat) : Rat.divInt (q.num * r.den - r.num * q.den) (q.den * r.den) = q - r := by
  conv => rhs; rw [qd q, qd r, Rat.divInt_sub_divInt _ _ (dne q) (dne r)]
theorem mul_eq (q r : Rat) : Rat.divInt (q.num * r.num) (q.den * r.den) = q * r := by
  conv => rhs; rw [qd q, qd r, Rat.divInt_mul_divInt _ _]
theorem addI_eq (q : Rat) (i : Int) : Rat.divInt (q.num + i * q.den) q.den = q + (i : Rat) := by
  have h := add_eq q i
  rw [Rat.num_intCast, Rat.den_intCast] at h
  simpa using h
theorem subI_eq (q : Rat) (i : Int) : Rat.divInt (q.num - i * q.den) q.den = q - (i : Rat) := by
  have h := sub_eq q i
  rw [Rat.num_intCast, Rat.den_intCast] at h
  simpa using h
theorem rsubI_eq (q : Rat) (i : Int) : Rat.divInt (i * q.den - q.num) q.den = (i : Rat) - q := by
  have h := sub_eq i q
  rw [Rat.num_intCast, Rat.den_intCast] at h
  simpa using h
theorem mulI_eq (q : Rat) (i : Int) : Rat.divInt (q.num * i) q.den = q * (i : Rat) := by
  have h := mul_eq q i
  rw [Rat.num_intCast, Rat.den_intCast] at h
  simpa using h
end AT
namespace AT
theorem fdiv_scale {a b c : Int} (hc : c ≠ 0) : (a * c).fdiv (b * c) = a.fdiv b := by
  rcases Int.lt_or_gt_of_ne hc with h | h
  · have e : (a * c).fdiv (b * c) = (a * (-c)).fdiv (b * (-c)) := by
      rw [Int.mul_neg, Int.mul_neg, Int.neg_fdiv_neg]
    rw [e, Int.mul_comm a, Int.mul_comm b]
    exact Int.mul_fdiv_mul_of_pos _ _ (by omega)
  · rw [Int.mul_comm a, Int.mul_comm b]
    exact Int.mul_fdiv_mul_of_pos _ _ h
theorem fdiv_cross {a b c d : Int} (hb : b ≠ 0) (hd : d ≠ 0) (e : a * d = c * b) : a.fdiv b = c.fdiv d := by
  rw [← fdiv_scale (a := a) (b := b) hd, ← fdiv_scale (a := c) (b := d) hb, e, Int.mul_comm b d]
theorem fdiv_small {a b : Int} : (a.fdiv b).natAbs ≤ a.natAbs := by
  by_cases hb : b = 0
  · subst hb; simp
  have key : ∀ {a b : Int}, 0 < b → (a.fdiv b).natAbs ≤ a.natAbs := by
    intro a b hb
    rw [Int.fdiv_eq_ediv_of_nonneg _ (by omega)]
    rcases (by omega : a < 0 ∨ 0 ≤ a) with h | h
    · have h1 : a / b < 0 := Int.ediv_neg_of_neg_of_pos h hb
      have h2 : a ≤ a / b := by
        apply Int.le_ediv_of_mul_le hb
        have : a * b ≤ a * 1 := Int.mul_le_mul_of_nonpos_left (by omega) (by omega)
        omega
      omega
    · have h1 : 0 ≤ a / b := Int.ediv_nonneg h (by omega)
      have h2 : a / b ≤ a := Int.ediv_le_self _ h
      omega
  rcases Int.lt_or_gt_of_ne hb with h | h
  · have := key (a := -a) (b := -b) (by omega)
    rw [Int.neg_fdiv_neg] at this
    omega
  · exact key h
/-- floor of the quotient -/
def fl (q r : Rat) : Int := (q.num * r.den).fdiv (q.den * r.num)
theorem flI_eq (q : Rat) (i : Int) : q.num.fdiv (q.den * i) = fl q (i : Rat) := by unfold fl; simp
theorem rflI_eq (q : Rat) (i : Int) : (i * q.den).fdiv q.num = fl (i : Rat) q := by unfold fl; simp
theorem rat_num0 {t b : Int} (hb : b ≠ 0) : (Rat.divInt t b).num = 0 ↔ t = 0 := by
  have c := cross (t := t) hb
  have d := den_pos (Rat.divInt t b)
  constructor
  · intro h
    rw [h, Int.zero_mul] at c
    rcases Int.mul_eq_zero.mp c.symm with h | h
    · exact h
    · omega
  · intro h
    subst h
    rw [Int.zero_mul] at c
    rcases Int.mul_eq_zero.mp c with h | h
    · exact h
    · exact absurd h hb
theorem fl_div {t b t' b' : Int} (hb : b ≠ 0) (hb' : b' ≠ 0) (ht' : t' ≠ 0) : fl (Rat.divInt t b) (Rat.divInt t' b') = (t * b').fdiv (b * t') := by
  have c1 := cross (t := t) hb
  have c2 := cross (t := t') hb'
  have d1 := den_pos (Rat.divInt t b)
  have d2 := den_pos (Rat.divInt t' b')
  have n2 : (Rat.divInt t' b').num ≠ 0 := fun h => ht' ((rat_num0 hb').mp h)
  unfold fl
  generalize (Rat.divInt t b).num = n at *
  generalize ((Rat.divInt t b).den : Int) = d at *
  generalize (Rat.divInt t' b').num = n' at *
  generalize ((Rat.divInt t' b').den : Int) = d' at *
  refine fdiv_cross (Int.mul_ne_zero (by omega) n2) (Int.mul_ne_zero hb ht') ?_
  have e1 : n * d' * (b * t') = (n * b) * (t' * d') := by ac_rfl
  have e2 : t * b' * (d * n') = (t * d) * (n' * b') := by ac_rfl
  rw [e1, e2, c1, c2]
theorem bn_fl {q r : Rat} {m n : Nat} (h1 : Bn m q.num) (h2 : Bn n (r.den : Int)) : Bn (m + n) (fl q r) := (h1.mul h2).le fdiv_small
end AT
namespace AT
theorem lt_num (q r : Rat) : q < r ↔ q.num * r.den < r.num * q.den := Rat.lt_iff q r
/-- the sign of a difference of two quotients -/
theorem sgn {t b t' b' : Int} (h : b ≠ 0) (h' : b' ≠ 0) : ∃ m : Int, 0 < m ∧ ∃ m' : Int, 0 < m' ∧ ((t * b' - t' * b) * b * b') * m = ((Rat.divInt t b).num * ((Rat.divInt t' b').den : Int) - (Rat.divInt t' b').num * ((Rat.divInt t b).den : Int)) * m' := by
  have c1 := cross (t := t) h
  have c2 := cross (t := t') h'
  have d1 := den_pos (Rat.divInt t b)
  have d2 := den_pos (Rat.divInt t' b')
  generalize (Rat.divInt t b).num = n at *
  generalize ((Rat.divInt t b).den : Int) = d at *
  generalize (Rat.divInt t' b').num = n' at *
  generalize ((Rat.divInt t' b').den : Int) = d' at *
  refine ⟨d * d', Int.mul_pos d1 d2, (b * b') * (b * b'), ?_, ?_⟩
  · have z := Int.mul_ne_zero h h'
    rcases Int.lt_or_gt_of_ne z with z | z
    · exact Int.mul_pos_of_neg_of_neg z z
    · exact Int.mul_pos z z
  · have e1 : (t * b' - t' * b) * b * b' * (d * d') = (t * d) * (b' * b * b' * d') - (t' * d') * (b * b * b' * d) := by
      rw [Int.sub_mul, Int.sub_mul, Int.sub_mul]
      congr 1 <;> ac_rfl
    have e2 : (n * d' - n' * d) * (b * b' * (b * b')) = (n * b) * (b' * b * b' * d') - (n' * b') * (b * b * b' * d) := by
      rw [Int.sub_mul]
      congr 1 <;> ac_rfl
    rw [e1, e2, c1, c2]
theorem sgn_lt {t b t' b' : Int} (h : b ≠ 0) (h' : b' ≠ 0) : (t * b' - t' * b) * b * b' < 0 ↔ Rat.divInt t b < Rat.divInt t' b' := by
  obtain ⟨m, hm, m', hm', e⟩ := sgn (t := t) (t' := t') h h'
  rw [lt_num]
  generalize (t * b' - t' * b) * b * b' = s at *
  generalize (Rat.divInt t b).num * ((Rat.divInt t' b').den : Int) = x at *
  generalize (Rat.divInt t' b').num * ((Rat.divInt t b).den : Int) = y at *
  constructor
  · intro hs
    have : (x - y) * m' < 0 := by rw [← e]; exact Int.mul_neg_of_neg_of_pos hs hm
    have := Int.neg_of_mul_neg_left this (by omega)
    omega
  · intro hs
    have : s * m < 0 := by rw [e]; exact Int.mul_neg_of_neg_of_pos (by omega) hm'
    exact Int.neg_of_mul_neg_left this (by omega)
theorem rat_eq_num (q r : Rat) : q = r ↔ q.num * r.den = r.num * q.den := by
  constructor
  · rintro rfl; rfl
  · intro h
    refine Rat.le_antisymm ?_ ?_
    · rw [Rat.le_iff]; omega
    · rw [Rat.le_iff]; omega
theorem sgn_eq {t b t' b' : Int} (h : b ≠ 0) (h' : b' ≠ 0) : (t * b' - t' * b) * b * b' = 0 ↔ Rat.divInt t b = Rat.divInt t' b' := by
  obtain ⟨m, hm, m', hm', e⟩ := sgn (t := t) (t' := t') h h'
  rw [rat_eq_num]
  generalize (t * b' - t' * b) * b * b' = s at *
  generalize (Rat.divInt t b).num * ((Rat.divInt t' b').den : Int) = x at *
  generalize (Rat.divInt t' b').num * ((Rat.divInt t b).den : Int) = y at *
  constructor
  · intro hs
    subst hs
    rw [Int.zero_mul] at e
    rcases Int.mul_eq_zero.mp e.symm with h | h <;> omega
  · intro hs
    have : x - y = 0 := by omega
    rw [this, Int.zero_mul] at e
    rcases Int.mul_eq_zero.mp e with h | h <;> omega
/-- the sign s tells how q stands to r -/
structure Sgn (q r : Rat) (s : Int) : Prop where
  lt : s < 0 ↔ q < r
  eq : s = 0 ↔ q = r
theorem Sgn.of {t b t' b' : Int} (h : b ≠ 0) (h' : b' ≠ 0) : Sgn (Rat.divInt t b) (Rat.divInt t' b') ((t * b' - t' * b) * b * b') := ⟨sgn_lt h h', sgn_eq h h'⟩
theorem Sgn.gt {q r : Rat} {s : Int} (h : Sgn q r s) : s > 0 ↔ r < q := by
  constructor
  · intro hs
    have h1 : ¬ q < r := fun z => by have := h.lt.mpr z; omega
    have h2 : ¬ q = r := fun z => by have := h.eq.mpr z; omega
    rw [Rat.not_lt] at h1
    exact Rat.lt_iff_le_and_ne.mpr ⟨h1, fun e => h2 e.symm⟩
  · intro hs
    have h1 : ¬ s < 0 := fun z => Rat.not_lt.mpr (Rat.le_iff_lt_or_eq.mpr (.inl hs)) (h.lt.mp z)
    have h2 : ¬ s = 0 := fun z => by rw [h.eq.mp z] at hs; exact Rat.lt_irrefl hs
    omega
theorem Sgn.le {q r : Rat} {s : Int} (h : Sgn q r s) : s ≤ 0 ↔ q ≤ r := by
  rw [← Rat.not_lt, ← h.gt]; omega
theorem Sgn.ge {q r : Rat} {s : Int} (h : Sgn q r s) : s ≥ 0 ↔ r ≤ q := by
  rw [← Rat.not_lt, ← h.lt]; omega
theorem Sgn.swap {q r : Rat} {s : Int} (h : Sgn q r s) : Sgn r q (-s) := ⟨by rw [← h.gt]; omega, by rw [eq_comm (a := r), ← h.eq]; omega⟩
theorem ltI (q : Rat) (i : Int) : q.num < i * q.den ↔ q < (i : Rat) := by rw [lt_num]; simp
theorem leI (q : Rat) (i : Int) : q.num ≤ i * q.den ↔ q ≤ (i : Rat) := by rw [Rat.le_iff]; simp
theorem gtI (q : Rat) (i : Int) : q.num > i * q.den ↔ (i : Rat) < q := by rw [lt_num]; simp
theorem geI (q : Rat) (i : Int) : q.num ≥ i * q.den ↔ (i : Rat) ≤ q := by rw [Rat.le_iff]; simp
end AT
namespace AT
theorem neg_eq (q : Rat) : Rat.divInt (-q.num) q.den = -q := by
  conv => rhs; rw [qd q]
  exact (Rat.neg_divInt _ _).symm
theorem neg_div {t b : Int} : -(Rat.divInt t b) = Rat.divInt (-t) b := Rat.neg_divInt _ _
theorem dvC {t b t' b' : Int} : Rat.divInt t b * Rat.divInt t' b' = Rat.divInt (t * t') (b * b') := Rat.divInt_mul_divInt _ _
theorem pow_div {t b : Int} : ∀ n : Nat, (Rat.divInt t b) ^ n = Rat.divInt (t ^ n) (b ^ n)
  | 0 => by rw [Rat.pow_zero, Int.pow_zero, Int.pow_zero, divInt_one]; rfl
  | n + 1 => by rw [Rat.pow_succ, pow_div n, dvC, ← Int.pow_succ, ← Int.pow_succ]
theorem pow_ne {b : Int} (h : b ≠ 0) : ∀ n : Nat, b ^ n ≠ 0
  | 0 => by simp
  | n + 1 => by rw [Int.pow_succ]; exact Int.mul_ne_zero (pow_ne h n) h
theorem bn_pow {m : Nat} {t : Int} (h : Bn m t) : ∀ n : Nat, Bn (m * n + 1) (t ^ n)
  | 0 => by rw [Int.pow_zero, Nat.mul_zero]; decide
  | n + 1 => by
    rw [Int.pow_succ]
    exact ((bn_pow h n).mul h).mono (by rw [Nat.mul_succ]; omega)
theorem quo_eq {t b t' b' : Int} (h : b ≠ 0) (h' : b' ≠ 0) (n : t' ≠ 0) : Rat.divInt ((Rat.divInt t b).num * (Rat.divInt t' b').den) ((Rat.divInt t b).den * (Rat.divInt t' b').num) = Rat.divInt (t * b') (b * t') := by
  have c1 := cross (t := t) h
  have c2 := cross (t := t') h'
  have d1 := den_pos (Rat.divInt t b)
  have d2 := den_pos (Rat.divInt t' b')
  have n2 : (Rat.divInt t' b').num ≠ 0 := fun e => n ((rat_num0 h').mp e)
  generalize (Rat.divInt t b).num = x at *
  generalize ((Rat.divInt t b).den : Int) = d at *
  generalize (Rat.divInt t' b').num = x' at *
  generalize ((Rat.divInt t' b').den : Int) = d' at *
  rw [Rat.divInt_eq_divInt_iff (Int.mul_ne_zero (by omega) n2) (Int.mul_ne_zero h n)]
  have e1 : x * d' * (b * t') = (x * b) * (t' * d') := by ac_rfl
  have e2 : t * b' * (d * x') = (t * d) * (x' * b') := by ac_rfl
  rw [e1, e2, c1, c2]
theorem abs_div {t b : Int} (h : b ≠ 0) {s : Int} (hs : if t * b < 0 then s = -1 else s = 1) : Rat.divInt ((Rat.divInt t b).num.natAbs : Int) (Rat.divInt t b).den = Rat.divInt (s * t) b := by
  have c := cross (t := t) h
  have d := den_pos (Rat.divInt t b)
  have q := qd (Rat.divInt t b)
  have bb : 0 < b * b := by
    rcases Int.lt_or_gt_of_ne h with z | z
    · exact Int.mul_pos_of_neg_of_neg z z
    · exact Int.mul_pos z z
  have key : (Rat.divInt t b).num * (b * b) = (t * b) * (Rat.divInt t b).den := by
    rw [← Int.mul_assoc, c]; ac_rfl
  by_cases z : t * b < 0
  · rw [if_pos z] at hs
    subst hs
    have hn : (Rat.divInt t b).num < 0 := by
      have : (Rat.divInt t b).num * (b * b) < 0 := by rw [key]; exact Int.mul_neg_of_neg_of_pos z d
      exact Int.neg_of_mul_neg_left this (by omega)
    have e : ((Rat.divInt t b).num.natAbs : Int) = -(Rat.divInt t b).num := by omega
    rw [e, neg_eq, neg_div, Int.neg_mul, Int.one_mul]
  · rw [if_neg z] at hs
    subst hs
    have hn : 0 ≤ (Rat.divInt t b).num := by
      have : 0 ≤ (Rat.divInt t b).num * (b * b) := by rw [key]; exact Int.mul_nonneg (by omega) (by omega)
      rcases (by omega : (Rat.divInt t b).num < 0 ∨ 0 ≤ (Rat.divInt t b).num) with w | w
      · have := Int.mul_neg_of_neg_of_pos w bb
        omega
      · exact w
    have e : ((Rat.divInt t b).num.natAbs : Int) = (Rat.divInt t b).num := by omega
    rw [e, ← q, Int.one_mul]
end AT

end

section
/-! Operators of an own class in a try; two readings of one operator. -/
namespace AT
open PySem PySem.Spec PyProof.Rows L2
/-- an operation at slots that are told -/
def OpRA (X : Cx) (σ : L2.St) (f : Value → Value → Sem Value) (r : R2) : Prop :=
  ∀ (pins : List (Addr × Obj)) (s : Shared) (H : Hp) (x y : V) (v u : Value) (Q : VK), Inv X pins σ H s → RelV x v → RelV y u → r x y H Q →
    wpAny (model X.prog X.w) X.A (f v u) (EP X pins σ Q) X.xe s
def tOpS (r : L2.St → R2) (ta tb : TE) : TE := fun σ H Q => ta σ H fun x H1 => tb σ H1 fun y H2 => r σ x y H2 Q
def rOr2 (r r' : R2) : R2 := fun x y H Q => r x y H Q ∨ r' x y H Q
section
variable {X : Cx} {CX : CXT} {C l r : Addr} {fd fd' : FuncData} {ps ps' : List Str} {n : Nat} {sp sp' : Sp} {E E' : XK} {op : Operator} {σ : L2.St} {f : Value → Value → Sem Value} {a b : Expr} {ta tb : TE} {pos : Pos} {W : WX}
theorem pe_opS {r : L2.St → R2} (ho : ∀ σ, OpRA X σ (binaryOp op) (r σ)) (ha : PE X a ta) (hb : PE X b tb) : PE X (.BinOp a op b pos) (tOpS r ta tb) := by
  refine ⟨fun pins s σ H Q I h => ?_⟩
  exact wpAny_BinOp (binT ha hb I h fun v u s2 x y H2 I2 rx ry q => ho σ pins s2 H2 x y v u Q I2 rx ry q)
theorem w_opS {r : L2.St → R2} {H : Hp} {Q : VK} (h : ta σ H fun x H1 => tb σ H1 fun y H2 => r σ x y H2 Q) : tOpS r ta tb σ H Q := h
theorem OpRA.or {r r' : R2} (h : OpRA X σ f r) (h' : OpRA X σ f r') : OpRA X σ f (rOr2 r r') := fun pins s H x y v u Q I rx ry q => q.elim (h pins s H x y v u Q I rx ry) (h' pins s H x y v u Q I rx ry)
theorem OpR.or {r r' : R2} (h : OpR X f r) (h' : OpR X f r') : OpR X f (rOr2 r r') := fun pins s σ H x y v u Q I rx ry q => q.elim (h pins s σ H x y v u Q I rx ry) (h' pins s σ H x y v u Q I rx ry)
theorem run_twoA {g : Addr} {pins : List (Addr × Obj)} {H : Hp} {s : Shared} {Q : VK} {x y : V} {u v : Value} (F : FnOk X.prog X.w X.K X.mg X.base CX n g fd ps sp) (hr : Room n X.A) (hb : Binds X.K fd ps []) (hx : PassesAt CX X σ E) (I : Inv X pins σ H s)
    (rx : RelV x u) (ry : RelV y v) (h : sp [x, y] H Q E) : wpAny (model X.prog X.w) X.A (call (.ref g) [u, v]) (PySem.W.CmpBack (EP X pins σ Q)) X.xe s := by
  have z : wpAny (model X.prog X.w) X.A (call (.ref g) [u, v]) (EP X pins σ Q) X.xe s := run_fnS (E := fun _ => E) (us := [u, v]) (vs := [x, y]) F hr hb hx I (.cons rx (.cons ry .nil)) h
  refine thn z fun w s' q => ?_
  obtain ⟨z', H', I', rz, qz⟩ := q
  exact SlX.cmpback rz ⟨z', H', I', rz, qz⟩
theorem opA_ins (o : OwnC X.K C) (i : IntOp X.K C op l r) (F : FnOk X.prog X.w X.K X.mg X.base CX n l fd ps sp) (hr : Room n X.A) (hb : Binds X.K fd ps []) (hx : PassesAt CX X σ E) : OpRA X σ (binaryOp op) (rIns C sp E) := by
  intro pins s H x y v u Q I rx ry h
  obtain ⟨a, dx, fs, rfl, ha, hy, q⟩ := h
  obtain ⟨rc, e1, e2⟩ := i.rc
  obtain ⟨fo, h1⟩ := i.h1
  obtain ⟨ro, h2⟩ := i.h2
  cases (show v = Value.ref a from rx)
  obtain ⟨od, J⟩ := inst_at I ha
  rcases hy with ⟨j, rfl⟩ | ⟨b, dy, gs, rfl, hb'⟩
  · obtain ⟨t, rfl⟩ := (show ∃ t, u = Value.int j t from ry)
    obtain ⟨mm, hF⟩ := I.fr
    exact PySem.W.ksp_binT hF I.ok.mod.kin J rfl o.first i.ml.at_ i.ml.fn e1 e2 h1 h2 i.hs (run_twoA F hr hb hx I rel_ref rel_int q)
  · cases (show u = Value.ref b from ry)
    obtain ⟨od', J'⟩ := inst_at I hb'
    exact bin_same I.kIn J J' o.first i.ml.at_ i.ml.fn (run_twoA F hr hb hx I rel_ref rel_ref q)
theorem opA_intIns {lo : Addr} (d : IntDeclines op) (o : OwnC X.K C) (hl : PySem.W.findIn X.K (.ref C) (PySem.dunder op.info.2) = some (some (.ref lo))) (m : OwnM X.K C l (dunderR op.info.2))
    (F : FnOk X.prog X.w X.K X.mg X.base CX n l fd ps sp) (hr : Room n X.A) (hb : Binds X.K fd ps []) (hx : PassesAt CX X σ E) : OpRA X σ (binaryOp op) (rIntIns C sp E) := by
  intro pins s H x y v u Q I rx ry h
  obtain ⟨i, b, dy, gs, rfl, rfl, hb', q⟩ := h
  obtain ⟨t, rfl⟩ := (show ∃ t, v = Value.int i t from rx)
  cases (show u = Value.ref b from ry)
  obtain ⟨od, J⟩ := inst_at I hb'
  obtain ⟨hfi, id, B, slot, entry, dd⟩ := d
  exact bin_refl I.kIn J o.first hl m.at_ m.fn o.notInt hfi slot entry (dd i t b).1 (dd i t b).2 (run_twoA F hr hb hx I rel_ref rel_int q)
theorem passX (tk : Takes X (fun cls d _ H => E cls d H)) : Passes (L2.CX X.prog X.w) X E := L2.passes_call tk fun _ _ _ _ h => h
theorem exm_ZDE {K : PySem.W.Frag} : PySem.W.exmOne K (.type "ZeroDivisionError") (.type "ZeroDivisionError") = some true := by kernel_rfl
/-- // that may be by zero, named -/
def rFdX (W : XK) : R2 := fun x y H Q => ∃ i j, x = .int i ∧ y = .int j ∧ ((j ≠ 0 ∧ j.natAbs.log2 < 9000 ∧ Q (.int (i.fdiv j)) H) ∨ (j = 0 ∧ ∀ d, W (.type "ZeroDivisionError") d H))
theorem op_fdX {W : XK} (hc : X.calm = true) (tk : Takes X (fun cls d _ H => W cls d H)) : OpR X (binaryOp .FloorDiv) (rFdX W) := op_fdivX hc tk
theorem w_fdX {W : XK} {H : Hp} {Q : VK} {i j : Int} (h0 : j = 0 → ∀ d, W (.type "ZeroDivisionError") d H) (hl : Bn 8900 j) (h : j ≠ 0 → Q (.int (i.fdiv j)) H) : rFdX W (.int i) (.int j) H Q := by
  by_cases e : j = 0
  · exact ⟨i, j, rfl, rfl, .inr ⟨e, h0 e⟩⟩
  · exact ⟨i, j, rfl, rfl, .inl ⟨e, hl.log' (by decide), h e⟩⟩
/-- isinstance(x, (c1, ..)) -/
theorem w_isiT {K : PySem.W.Frag} {x : V} {tp : Addr} {cs : List V} {t : Value} {us : List Value} {b : Bool} {H : Hp} {Q : VK} (u : H tp = some (.tup cs)) (k : Paired ClsV cs us) (ty : TyX K H x t) (e : PySem.W.kitAny K t us = some b) (h : Q (.bl b) H) : rIsiT K [x, .ref tp] H Q := ⟨x, tp, cs, t, us, b, rfl, u, k, ty, e, h⟩
theorem kitAny_hit {K : PySem.W.Frag} {t c : Value} {r : List Value} (h : PySem.W.kitOne K t c = some true) : PySem.W.kitAny K t (c :: r) = some true := by
  unfold PySem.W.kitAny
  rw [h]
theorem kitAny_miss {K : PySem.W.Frag} {t c : Value} {r : List Value} {b : Bool} (h : PySem.W.kitOne K t c = some false) (h' : PySem.W.kitAny K t r = some b) : PySem.W.kitAny K t (c :: r) = some b := by
  conv => lhs; unfold PySem.W.kitAny
  rw [h]
  exact h'
end
/-- a list comprehension -/
theorem w_lc {wi : TI} {g : TG} {tt : TT} {te : TE} {vs : List Nat} {σ : L2.St} {H : Hp} {Q : VK} (h : wi σ H fun J H1 => ∀ D, H1 D = none → ∃ W : Nat → Nat → Hp → Prop, (∃ m, W 0 m (upd H1 D (.lst []))) ∧ ∀ i m H, W i m H →
  (J.stop i H ∧ Q (.ref D) H) ∨ (J.go i H ∧ ∃ Nx : Hp → Prop, (∀ H', Nx H' → ∃ m', m' < m ∧ W (i + 1) m' H') ∧ ∀ x H', J.yld i H x H' → g x (L2.wipe σ vs) H' fun σ2 H2 => L2.wipe σ2 vs = L2.wipe σ vs ∧ tt σ2 H2 fun b H3 =>
    if b = true then te σ2 H3 fun y H4 => ∃ acc, H4 D = some (.lst acc) ∧ acc.length < sizeLine ∧ Nx (upd H4 D (.lst (acc ++ [y]))) else Nx H3)) : tLc wi g tt te vs σ H Q := h
/-- str(i) -/
def rStrI : List V → Hp → VK → Prop := fun xs H Q => ∃ i, xs = [.int i] ∧ i.natAbs.log2 < 1920 ∧ Q (.str (toString i)) H
theorem call_strR {X : Cx} : CallR X (.type "str") rStrI := call_str_int
theorem w_strI {i : Int} {H : Hp} {Q : VK} (b : Bn 1900 i) (k : Q (.str (toString i)) H) : rStrI [.int i] H Q := ⟨i, rfl, b.log' (by decide), k⟩
end AT

end

section
/-! abs, bool of an own class; methods in a try. -/
namespace AT
open PySem PySem.Spec PyProof.Rows L2
/-- abs(x) by x's own method, bool(x) likewise -/
def rOwn1 (C : Addr) (sp : Sp) (E : XK) : List V → Hp → VK → Prop := fun xs H Q => ∃ a dx fs, xs = [.ref a] ∧ H a = some (.ins C dx fs) ∧ sp [.ref a] H Q E
def rOwnB (C : Addr) (sp : Sp) (E : XK) : List V → Hp → VK → Prop := fun xs H Q => ∃ a dx fs, xs = [.ref a] ∧ H a = some (.ins C dx fs) ∧ sp [.ref a] H (fun z H' => ∃ k, z = .bl k ∧ Q (.bl k) H') E
section
variable {X : Cx} {CX : CXT} {C g : Addr} {fd : FuncData} {ps : List Str} {n : Nat} {sp : Sp} {E : XK}
theorem run_deep1 {A : Around} {pins : List (Addr × Obj)} {σ : L2.St} {H : Hp} {s : Shared} {Q : VK} {x : V} {u : Value} (F : FnOk X.prog X.w X.K X.mg X.base CX n g fd ps sp) (hr : Room n A) (e0 : Env0 X.prog X.w X.K X.mg X.base A X.stack s H) (hb : Binds X.K fd ps []) (hx : Passes CX X E)
    (I : Inv X pins σ H s) (rx : RelV x u) (h : sp [x] H Q E) : wpAny (model X.prog X.w) A (call (.ref g) [u]) (EP X pins σ Q) X.xe s := by
  have r2 : Vals [x] [u] := .cons rx .nil
  have hl : [u].length = ps.length := by rw [← r2.length]; exact F.len _ _ _ _ h
  refine wpAny_call (codeAny_mono (F.run A X.stack s H ⟨[u], []⟩ [u] [x] Q E hr e0 (by have := hb s [u] I.kIn (by simpa using hl); simpa using this) r2 h) fun r s' hq => ?_)
  cases r with
  | error e => exact hx pins σ H s e s' I hq
  | ok fl => cases fl with
    | ret w => exact I.after hq
    | next => exact (show False from hq).elim
    | brk => exact (show False from hq).elim
    | cont => exact (show False from hq).elim
theorem call_absOwn (m : OwnM X.K C g "__abs__") (F : FnOk X.prog X.w X.K X.mg X.base CX n g fd ps sp) (hr : Room (n + 1) X.A) (hb : Binds X.K fd ps []) (hx : Passes CX X E) : CallR X (.builtin "abs") (rOwn1 C sp E) := by
  intro pins s σ H xs us Q I r h
  obtain ⟨a, dx, fs, rfl, ha, q⟩ := h
  obtain ⟨u, rfl, r1⟩ := vals1 r
  cases (show u = Value.ref a from r1)
  obtain ⟨od, J⟩ := inst_at I ha
  refine PySem.Calls.call_function_entry kind_abs plain_abs entry_abs (args_abs _) ?_
  unfold Builtin.«abs»
  refine wpAny_bind (m := oneArg "abs" _) (wpAny_pure ?_)
  refine wpAny_bind (m := callSpecial? (.ref a) (Str.ofString "__abs__")) (PySem.W.special_fn I.kIn J m.at_ (beq_iff_eq.mp m.fn) (thn (run_deep1 F hr.in1 I.env0.in1 hb hx I rel_ref q) fun w s' z => ?_))
  exact wpAny_pure ⟨w, rfl, z⟩
theorem tru_own {A : Around} {pins : List (Addr × Obj)} {σ : L2.St} {H : Hp} {s : Shared} {Q : Bool → Hp → Prop} {a dx : Addr} {fs : List (Str × V)} (m : OwnM X.K C g "__bool__") (F : FnOk X.prog X.w X.K X.mg X.base CX n g fd ps sp) (hr : Room n A) (e0 : Env0 X.prog X.w X.K X.mg X.base A X.stack s H) (hb : Binds X.K fd ps []) (hx : Passes CX X E)
    (I : Inv X pins σ H s) (ha : H a = some (.ins C dx fs)) (h : sp [.ref a] H (fun z H' => ∃ k, z = .bl k ∧ Q k H') E) : wpAny (model X.prog X.w) A (truthy (.ref a)) (TP X pins σ Q) X.xe s := by
  obtain ⟨od, J⟩ := inst_at I ha
  unfold truthy
  have main : ∀ {Q' : Option Value → Shared → Prop}, (∀ (k : Bool) s', TP X pins σ Q k s' → Q' (some (.bool k)) s') → wpAny (model X.prog X.w) A (callSpecial? (.ref a) (Str.ofString "__bool__")) Q' X.xe s := fun {Q'} hq =>
    PySem.W.special_fn I.kIn J m.at_ (beq_iff_eq.mp m.fn) (thn (run_deep1 F hr e0 hb hx I rel_ref h) fun w s' z => by
      obtain ⟨z', H', I', rz, k, rfl, qz⟩ := z
      cases (show w = Value.bool k from rz)
      exact hq k s' ⟨H', I', qz⟩)
  first
    | refine wpAny_bind (main fun k s' z => ?_)
    | refine wpAny_bind (wpAny_pure (wpAny_bind (main fun k s' z => ?_)))
  exact wpAny_pure z
theorem call_boolOwn (m : OwnM X.K C g "__bool__") (F : FnOk X.prog X.w X.K X.mg X.base CX n g fd ps sp) (hr : Room (n + 2) X.A) (hb : Binds X.K fd ps []) (hx : Passes CX X E) : CallR X (.type "bool") (rOwnB C sp E) := by
  intro pins s σ H xs us Q I r h
  obtain ⟨a, dx, fs, rfl, ha, q⟩ := h
  obtain ⟨u, rfl, r1⟩ := vals1 r
  cases (show u = Value.ref a from r1)
  refine callType_newIn (S := fun A R s => wpAny (model X.prog X.w) A.in1 (truthy (.ref a)) (fun b s' => R (.ok (.ret (.bool b))) s') (fun e s' => R (.error e) s') s) PySem.F.called_bool PySem.F.newNe_bool (PySem.F.typeCall_bool_1 _) (PySem.F.newCall_bool_1 _) (fun obj => PySem.F.args_object_init_2 obj _) PySem.F.entry_bool_new
    (MeetsIn.of_wp fun A R s hs => ?_) ?_
  · obtain ⟨hp, g, d, tk, os⟩ := s
    have f1 := PySem.F.conv_sub_bool
    repeat (any_goals (first | assumption | with_reducible refine wpAny_mono hs (fun b s' z => ?_) (fun _ _ z => z) | wp_step))
    all_goals exact ⟨_, rfl, z⟩
  · show wpAny _ _ _ _ _ _
    refine wpAny_mono (tru_own (Q := fun k H' => Q (.bl k) H') m F hr.in1.in1 I.env0.in1.in1 hb hx I ha q) (fun b s' z => ?_) (fun _ _ z => z)
    obtain ⟨H', I', qz⟩ := z
    exact ⟨rfl, .bl b, H', I', rfl, qz⟩
/-- o.m(e, ..) in a try -/
def tMethS (C : Addr) (m : Str) (sp : Sp) (dvs : List V) (E : L2.St → XK) (ta : TE) (t : TA) : TE := fun σ H Q => ta σ H fun x H1 => ∃ a dx fs, x = .ref a ∧ H1 a = some (.ins C dx fs) ∧ fs.lookup m = none ∧ t σ H1 fun vs H2 => sp (.ref a :: (vs ++ dvs)) H2 Q (E σ)
theorem pe_methA {f : Addr} {m : Str} {o e : Expr} {es : List Expr} {E : L2.St → XK} {ta : TE} {t : TA} {apos pos : Pos} {pl : Sem Bool} (he : PE X o ta) (c : Cls X.K C) (hm : Meth X.K C m f) (F : FnOk X.prog X.w X.K X.mg X.base CX n f fd ps sp) (hr : Room n X.A) (hb : Binds X.K fd ps []) (hx : ∀ σ, PassesAt CX X σ (E σ)) (ha : PA X (e :: es) t)
    (hst : starEach (e :: es) X.env = (false, eval e X.env) :: starEach es X.env := by rfl) (hpl : (backTo pos (starEach es X.env)).any (·.1) = false := by rfl)
    (ht : eval (.Call (.Attribute o m apos) (e :: es) [] pos) X.env = (do
      let ov ← eval o X.env
      standAt apos.atName
      let (f, first) ← holding [ov] (getMethod ov m pl)
      callWith pos f first (backTo pos (starEach (e :: es) X.env)) (backToKw pos (keywordEach [] X.env))) := by rfl) :
    PE X (.Call (.Attribute o m apos) (e :: es) [] pos) (tMethS C m sp [] E ta t) := by
  refine ⟨fun pins s σ H Q I h => ?_⟩
  refine PySem.W.methodCall_KW (pl := pl) (thn (he.run pins s σ H _ I h) fun u s1 ⟨x, H1, I1, rx, a, dx, fs, ex, ea, l, q⟩ => ?_) ht
  subst ex
  obtain rfl : u = Value.ref a := rx
  refine getmeth_ok I1 ea c hm l ?_
  refine PySem.W.callWith_K (first := [.ref a]) (h₀ := X.base) I.ok.mod.kin hm.kp (thn (ha.run pos pins s1 σ H1 _ I1 q) fun us s2 ⟨vs, H2, I2, r, q2⟩ => ⟨I2.kIn, ?_⟩) hst hpl
  exact run_fnS (us := .ref a :: us) (vs := .ref a :: vs) F hr hb (hx σ) I2 (.cons rfl r) (by simpa using q2)
theorem w_methS {m : Str} {E : L2.St → XK} {ta : TE} {t : TA} {dvs : List V} {σ : L2.St} {H : Hp} {Q : VK} (h : ta σ H fun x H1 => ∃ a dx fs, x = .ref a ∧ H1 a = some (.ins C dx fs) ∧ fs.lookup m = none ∧ t σ H1 fun vs H2 => sp (.ref a :: (vs ++ dvs)) H2 Q (E σ)) : tMethS C m sp dvs E ta t σ H Q := h
/-- -x, named -/
theorem w_gtup {K : PySem.W.Frag} {k : Nat} {t : TGs} {p : Addr} {xs : List V} {σ : L2.St} {H : Hp} {Q : L2.St → Hp → Prop} (u : SqT K H p xs) (e : xs.length = k) (h : t xs σ H Q) : gTup K k t (.ref p) σ H Q := ⟨p, xs, rfl, u, e, h⟩
end
end AT

end

section
/-! Own exceptions as values: making one, reading its attributes, asking its kind. -/
namespace AT
open PySem PySem.Spec PyProof.Rows L2
/-- C(e, ..), an own exception with its own __init__ -/
def rMkV (C : Addr) (sp : Sp) : List V → Hp → VK → Prop := fun vs H1 Q => vs.length ≤ 1000 ∧ ∀ a, H1 a = none → sp (.ref a :: vs) (upd H1 a (exo a C none)) (fun v H2 => v = .non ∧ Q (.ref a) H2) (fun _ _ _ => False)
def tMkV (C : Addr) (sp : Sp) (t : TA) : TE := fun σ H Q => t σ H fun vs H1 => rMkV C sp vs H1 Q
/-- C(), an own exception without -/
def rMkV0 (C : Addr) : Hp → VK → Prop := fun H Q => ∀ a, H a = none → Q (.ref a) (upd H a (exo a C none))
def tMkV0 (C : Addr) : TE := fun _ H Q => rMkV0 C H Q
/-- e.f -/
def rXv (C : Addr) (f : Str) : V → Hp → VK → Prop := fun x H Q => ∃ (a d : Addr) (fs : List (Str × V)) (v : V), x = .ref a ∧ H a = some (exo a C (some d)) ∧ H d = some (exd d fs) ∧ fs.lookup f = some v ∧ Q v H
def tXv (C : Addr) (f : Str) (te : TE) : TE := fun σ H Q => te σ H fun x H1 => rXv C f x H1 Q
/-- isinstance(e, c) -/
def rIsX (K : PySem.W.Frag) : List V → Hp → VK → Prop := fun xs H Q => ∃ (a C : Addr) (c : V) (u : Value) (b : Bool), xs = [.ref a, c] ∧ (H a = some (exo a C none) ∨ ∃ d fs, H a = some (exo a C (some d)) ∧ H d = some (exd d fs)) ∧ ExcC K C ∧ ClsV c u ∧ PySem.W.kitOne K (.ref C) u = some b ∧ Q (.bl b) H
section
variable {X : Cx} {e : Expr} {es : List Expr} {te : TE} {ta : TA} {p pos : Pos}
theorem pe_exV {CX : CXT} {x : Str} {C fI : Addr} {k : Nat} {fd : FuncData} {ps : List Str} {sp : Sp} (T : OexC X.K C) (iC : PySem.W.findIn X.K (.ref C) "__init__" = some (some (.ref fI))) (tI : PySem.W.typeIn X.K (.ref fI) = some (.type "function"))
    (F1 : FnOk X.prog X.w X.K X.mg X.base CX k fI fd ps sp) (hr : Room (k + 1) X.A) (hb : Binds X.K fd ps []) (hx : Passes CX X (fun _ _ _ => False)) (hg : Gl X x) (hm : X.mg x = some (.ref C)) (ha : PA X (e :: es) ta)
    (hdb : (x == ("__debug__" : Str)) = false := by decide) (he : starEach (e :: es) X.env = (false, eval e X.env) :: starEach es X.env := by rfl) (hpl : (backTo pos (starEach es X.env)).any (·.1) = false := by rfl) :
    PE X (.Call (.Name x p) (e :: es) [] pos) (tMkV C sp ta) := by
  refine ⟨fun pins s σ H Q I h => ?_⟩
  obtain ⟨nm, q, N, bs, bm, sn, sub, ab, col, dd, k0, k1, k2, k3, k5, hC, hbm⟩ := T.cls
  refine wpAny_Call_Name_kw (ld_glob I hg hm ?_ hdb)
  refine PySem.W.callWith_K (h₀ := X.base) I.ok.mod.kin T.kC (thn (ha.run pos pins s σ H _ I h) fun us s1 ⟨vs, H1, I1, r1, hz, q1⟩ => ⟨I1.kIn, ?_⟩) he hpl
  show wpAny _ _ (call (.ref C) us) _ _ _
  obtain ⟨hp, g, dr, tk, os⟩ := s1
  have hsz : hp.objs.size ≤ hp.objs.size + 1 := Nat.le_succ _
  have hn : H1 (hp.objs.size + 1) = none := I1.hok.fresh hsz
  have hq := q1 (hp.objs.size + 1) hn
  have kk : ∀ b o, hp.get? b = some o → ((hp.push (PySem.W.kdv_tup us)).push (PySem.HandSPX.excO C hp.objs.size)).get? b = some o := fun b o e => Heap.get?_push_of_some _ (Heap.get?_push_of_some _ e)
  have hget : ((hp.push (PySem.W.kdv_tup us)).push (PySem.HandSPX.excO C hp.objs.size)).get? (hp.objs.size + 1) = some (PySem.HandSPX.excO C hp.objs.size) := by heap_get
  have I2 : Inv X pins σ (upd H1 (hp.objs.size + 1) (exo (hp.objs.size + 1) C none)) ⟨(hp.push (PySem.W.kdv_tup us)).push (PySem.HandSPX.excO C hp.objs.size), g, dr, tk, os⟩ :=
    I1.laid (t' := tk) (a := hp.objs.size + 1) (o := exo (hp.objs.size + 1) C none) (h' := (hp.push (PySem.W.kdv_tup us)).push (PySem.HandSPX.excO C hp.objs.size)) kk hsz (exo_ok hget)
  have r2 : Vals (V.ref (hp.objs.size + 1) :: vs) (Value.ref (hp.objs.size + 1) :: us) := .cons rfl r1
  have hl : (Value.ref (hp.objs.size + 1) :: us).length = ps.length := by
    have e := r2.length
    rw [F1.len _ _ _ _ hq] at e
    exact e.symm
  have hus : us.length ≤ sizeLine := by
    rw [← Paired.length r1, sizeLine_eq]
    omega
  refine wpAny_call (PySem.HandSPX.call_own PySem.F.excBase_ValueError (fun Y => PySem.HandSPX.refsVE_contains Y bm hbm) (I1.kIn _ _ hC) (PySem.W.looks_findIn I1.kIn iC) (fun self => PySem.W.bind_fn I1.kIn self tI) hus
    (codeAny_mono (F1.run _ X.stack _ _ ⟨Value.ref (hp.objs.size + 1) :: us, []⟩ (Value.ref (hp.objs.size + 1) :: us) _ _ (fun _ _ _ => False) (hr.make C us []) (I2.env0.make C us []) (by have := hb _ (Value.ref (hp.objs.size + 1) :: us) I2.kIn (by simpa using hl); simpa using this) r2 hq) fun r s' hq' => ?_))
  cases r with
  | error er => exact hx pins σ _ _ er s' I2 hq'
  | ok fl =>
    cases fl with
    | ret u =>
      obtain ⟨v, H2, I3, rv, ev, q2⟩ := I2.after hq'
      subst ev
      exact ⟨rv, V.ref (hp.objs.size + 1), H2, I3, rfl, q2⟩
    | next => exact False.elim hq'
    | brk => exact False.elim hq'
    | cont => exact False.elim hq'
theorem pe_exV0 {C : Addr} {bmB : List Value} {B newId initId : String} {x : Str} (F : ExcBaseFacts B newId initId bmB) (q : PySem.W.excIn X.K C bmB newId = true) (kC : PySem.W.keepIn X.K (.ref C) = true) (hg : Gl X x) (gC : X.mg x = some (.ref C))
    (hdb : (x == ("__debug__" : Str)) = false := by decide) : PE X (.Call (.Name x p) [] [] pos) (tMkV0 C) := by
  refine ⟨fun pins s σ H Q I h => ?_⟩
  refine wpAny_Call_Name_kw (ld_glob I hg gC ?_ hdb)
  refine PySem.W.callWith_K0 I.kIn kC ?_
  obtain ⟨bm, N, nm, qn, bs, hdct, sn, sub, ab, col, dd, k0, k1, k2, k3, k5, mN, hC, hN, hni, T⟩ := exc_obj I.kIn q
  obtain ⟨hp, g, dr, tk, os⟩ := s
  refine wpAny_call_exc_subT F T hC hN hni (fun h' e hm => ?_) (by show 0 ≤ sizeLine; omega)
  obtain ⟨t, he, _, _⟩ := hm.there
  exact ⟨.ref e, _, I.laidN (t' := tk) hm.keeps hm.new (I.hok.gone hm.new) (exo_ok he), rfl, h e (I.hok.gone hm.new)⟩
theorem pe_xv {C : Addr} {n : Str} (T : XfC X.K C) (hno : PySem.W.findIn X.K (.ref C) n = some none) (he : PE X e te) (hb : attributeBase e n X.env (eval e X.env) = eval e X.env := by rfl) : PE X (.Attribute e n pos) (tXv C n te) := by
  refine ⟨fun pins s σ H Q I h => ?_⟩
  refine attr_of hb (thn (he.run pins s σ H _ I h) fun u s1 hh => ?_)
  obtain ⟨x, H1, I1, rx, a, dd, fs, v, ex, ea, ed, l, q⟩ := hh
  subst ex
  obtain rfl : u = Value.ref a := rx
  obtain ⟨t1, ha⟩ := exo_at I1.hok ea
  obtain ⟨mA, hns, hr⟩ := exd_at I1.hok ed
  obtain ⟨od, ho, hl⟩ := lookIn_ns hns
  obtain ⟨u, hu, ru⟩ := RelO.some_of (v := v) (o := mA n) (by rw [← l]; exact hr n)
  have J : PySem.W.InstAt s1.heap a _ C (some od) := ⟨ha, rfl, rfl, ho⟩
  exact HandSPX.exc_get I1.kIn J T.ga T.gg T.exC (PySem.W.findObj_own T.hdC hno rfl (by rw [hl, hu])) (handed_of ru) ⟨v, H1, I1.tok _, ru, q⟩
theorem call_isX : CallR X (.builtin "isinstance") (rIsX X.K) := by
  intro pins s σ H xs us Q I r h
  obtain ⟨a, C, c, u, b, rfl, hx, T, k, ek, q⟩ := h
  obtain ⟨u1, u2, rfl, r1, r2⟩ := vals2 r
  cases (show u1 = Value.ref a from r1)
  have e2 := k.eq r2
  subst e2
  rcases hx with ha | ⟨d, fs, ha, hd⟩
  · obtain ⟨t1, hg⟩ := exo_at I.hok ha
    have J : PySem.W.InstAt s.heap a _ C none := ⟨hg, rfl, rfl, True.intro⟩
    exact PySem.W.kia_one (PySem.W.handS_kitx_exc T.hg T.hk T.hs T.hd T.ha T.hn T.ht T.hm) I.kIn J ek (fun z => nomatch z) fun tk => ⟨.bl b, H, I.tok tk, rfl, q⟩
  · obtain ⟨t1, hg⟩ := exo_at I.hok ha
    obtain ⟨mA, hns, _⟩ := exd_at I.hok hd
    obtain ⟨od, ho, _⟩ := lookIn_ns hns
    have J : PySem.W.InstAt s.heap a _ C (some od) := ⟨hg, rfl, rfl, ho⟩
    obtain ⟨cd, hc, _⟩ := PySem.W.any_some T.hd
    exact PySem.W.kia_one (PySem.W.kitx_exc (Option.isSome_iff_exists.mpr ⟨cd, hc⟩) T.hg T.hk T.hs T.ha T.hn T.ht T.hm) I.kIn J ek (fun z => nomatch z) fun tk => ⟨.bl b, H, I.tok tk, rfl, q⟩
end
/-- the kinds of an own error -/
def mroE (C A : Addr) : List Value := [.ref C, .ref A, .type "ValueError", .type "Exception", .type "BaseException", .type "object"]
structure ErrO (K : PySem.W.Frag) (A C : Addr) : Prop where
  mro : ∃ cd, PySem.W.clsIn K C = some cd ∧ cd.mro = mroE C A
  hg : PySem.W.findIn K (.ref C) "__getattribute__" = some (some (.builtin "BaseException.__getattribute__"))
  hk : PySem.W.findIn K (.ref C) "__getattr__" = some none
  hd : PySem.W.hasDictIn K C = true
  ha : PySem.W.findIn K (.ref C) "__class__" = some (some (.builtin "object.__class__"))
  hn : PySem.W.specialIn K (.builtin "object.__class__") "__get__" = some (some (.builtin "getset_descriptor.__get__"))
  ht : PySem.W.takesIn K (.builtin "object.__class__") = some true
  ty : PySem.W.typeIn K (.ref C) = some (.type "type")
theorem ErrO.sub {K : PySem.W.Frag} {A C : Addr} (o : ErrO K A C) (c : Value) : PySem.W.subIn K (.ref C) c = some ((mroE C A).contains c) := by
  obtain ⟨cd, h1, h2⟩ := o.mro
  show PySem.W.mroIn K C c = _
  unfold PySem.W.mroIn
  rw [h1]
  show (if cd.mro.isEmpty then none else some (cd.mro.contains c)) = _
  rw [h2]
  rfl
theorem ErrO.isC {K : PySem.W.Frag} {A C : Addr} (o : ErrO K A C) : PySem.W.isClsIn K C = true := by
  obtain ⟨cd, h1, h2⟩ := o.mro
  show (PySem.W.clsIn K C).isSome = true
  rw [h1]
  rfl
theorem ErrO.exc {K : PySem.W.Frag} {A C : Addr} (o : ErrO K A C) : ExcC K C := ⟨o.hg, o.hk, by rw [o.sub]; simp [mroE], o.hd, o.ha, o.hn, o.ht, (o.sub (.type "object")).trans (by simp [mroE])⟩
theorem ErrO.kit {K : PySem.W.Frag} {A C D : Addr} (o : ErrO K A C) (od : ErrO K A D) (h : D ≠ A) : PySem.W.kitOne K (.ref C) (.ref D) = some (decide (C = D)) := by
  by_cases e : C = D
  · subst e
    rw [kit_self, decide_eq_true rfl]
  · have hne : (Value.ref C == Value.ref D) = false := Bool.eq_false_iff.mpr fun q => by cases beq_iff_eq.mp q; exact e rfl
    rw [kit_own od.isC od.ty (o.sub _) hne, decide_eq_false e]
    have h' : ¬ D = C := fun z => e z.symm
    simp [mroE, h, h']
theorem ErrO.kitA {K : PySem.W.Frag} {A C : Addr} (o : ErrO K A C) (i : PySem.W.isClsIn K A = true) (t : PySem.W.typeIn K (.ref A) = some (.type "type")) (h : C ≠ A) : PySem.W.kitOne K (.ref C) (.ref A) = some true := by
  have hne : (Value.ref C == Value.ref A) = false := Bool.eq_false_iff.mpr fun q => by cases beq_iff_eq.mp q; exact h rfl
  rw [kit_own i t (o.sub _) hne]
  simp [mroE]
theorem ErrO.kitV {K : PySem.W.Frag} {A C : Addr} (o : ErrO K A C) : PySem.W.kitOne K (.ref C) (.type "ValueError") = some true := by
  rw [kit_insTy (o.sub _) (by decide +kernel)]
  simp [mroE]
/-- what stands of an error: itself, perhaps its dict -/
def IsEx (H : Hp) (a C : Addr) : Prop := H a = some (exo a C none) ∨ ∃ d fs, H a = some (exo a C (some d)) ∧ H d = some (exd d fs)
theorem IsEx.up {H H' : Hp} {a C : Addr} (e : Ext H H') (h : IsEx H a C) : IsEx H' a C := h.imp (fun h => e _ _ h) fun ⟨d, fs, h1, h2⟩ => ⟨d, fs, e _ _ h1, e _ _ h2⟩
def ExAt (H : Hp) (a C : Addr) (fs : List (Str × V)) : Prop := ∃ d, H a = some (exo a C (some d)) ∧ H d = some (exd d fs)
theorem ExAt.up {H H' : Hp} {a C : Addr} {fs : List (Str × V)} (e : Ext H H') (h : ExAt H a C fs) : ExAt H' a C fs := by
  obtain ⟨d, h1, h2⟩ := h
  exact ⟨d, e _ _ h1, e _ _ h2⟩
theorem ExAt.is {H : Hp} {a C : Addr} {fs : List (Str × V)} (h : ExAt H a C fs) : IsEx H a C := by
  obtain ⟨d, h1, h2⟩ := h
  exact .inr ⟨d, fs, h1, h2⟩
/-- an error's own __init__: fs its attributes -/
def spErr (C : Addr) (fs : List Str) : Sp := fun vs H Q _ => ∃ (a : Addr) (xs : List V), vs = .ref a :: xs ∧ xs.length = fs.length ∧ H a = some (exo a C none) ∧
  ∀ d H', H d = none → H' a = some (exo a C (some d)) → H' d = some (exd d (fs.zip xs).reverse) → (∀ b o, H b = some o → b ≠ a → H' b = some o) → Q .non H'
section
variable {K : PySem.W.Frag} {H : Hp} {Q : VK} {a C : Addr} {fs : List Str} {vs : List V} {f : Str} {v c : V} {u : Value} {b : Bool} {l : List (Str × V)}
theorem w_mkV (e : vs.length = fs.length) (z : fs.length ≤ 1000) (k : ∀ a H', Ext H H' → ExAt H' a C (fs.zip vs).reverse → Q (.ref a) H') : rMkV C (spErr C fs) vs H Q := by
  refine ⟨by omega, fun a na => ⟨a, vs, rfl, e, upd_same, fun d H' nd h1 h2 kp => ⟨rfl, k a H' (fun q o eo => ?_) ⟨d, h1, h2⟩⟩⟩⟩
  exact kp q o (by rw [upd_ne (ne_of_none eo na)]; exact eo) (ne_of_none eo na)
theorem w_mkV0 (k : ∀ a H', Ext H H' → IsEx H' a C → Q (.ref a) H') : rMkV0 C H Q := fun a na => k a _ (Ext.new na) (.inl upd_same)
theorem w_xv (x : ExAt H a C l) (e : l.lookup f = some v) (k : Q v H) : rXv C f (.ref a) H Q := by
  obtain ⟨d, h1, h2⟩ := x
  exact ⟨a, d, l, v, rfl, h1, h2, e, k⟩
theorem w_isX (x : IsEx H a C) (o : ExcC K C) (kc : ClsV c u) (e : PySem.W.kitOne K (.ref C) u = some b) (k : Q (.bl b) H) : rIsX K [.ref a, c] H Q := ⟨a, C, c, u, b, rfl, x, o, kc, e, k⟩
theorem w_tMkV {sp : Sp} {t : TA} {σ : L2.St} (h : t σ H fun vs H1 => rMkV C sp vs H1 Q) : tMkV C sp t σ H Q := h
theorem w_tMkV0 {σ : L2.St} (h : rMkV0 C H Q) : tMkV0 C σ H Q := h
theorem w_tXv {te : TE} {σ : L2.St} (h : te σ H fun x H1 => rXv C f x H1 Q) : tXv C f te σ H Q := h
end
end AT

end

section
namespace AT
open PySem PySem.Spec PyProof.Rows L2
theorem i_decN {p : Prop} [Decidable p] {A B : Prop} (h2 : ¬ p → B) (h1 : p → A) : if decide p = true then A else B := i_dec h1 h2
theorem i_ndecN {p : Prop} [Decidable p] {A B : Prop} (h2 : ¬ p → A) (h1 : p → B) : if (!decide p) = true then A else B := i_ndec h1 h2
theorem lk_ne {f g : Str} {v : V} {r : List (Str × V)} (h : (f == g) = false) : List.lookup f ((g, v) :: r) = List.lookup f r := by rw [List.lookup_cons, h]
theorem w_makeK {C : Addr} {n m : Nat} {sp : Sp} {gV : List V → List V → List V} {E : XK} {t tk : TA} {σ : L2.St} {H : Hp} {Q : VK} (h : t σ H fun vs H1 => tk σ H1 fun zs H2 => vs.length = n ∧ zs.length = m ∧ ∀ x dx, H2 x = none → H2 dx = none → dx ≠ x →
  sp (gV (.ref x :: vs) zs) (upd (upd H2 dx (.own x)) x (.ins C dx [])) (fun v H3 => v = .non ∧ Q (.ref x) H3) E) : tMakeK C n m sp gV E t tk σ H Q := h
end AT

end

section
/-! Static methods, str of an own class. -/
namespace AT
open PySem PySem.Spec PyProof.Rows L2
/-- C.m is a static method: its record at p, its def at g -/
structure SMet (K : PySem.W.Frag) (C : Addr) (m : Str) (g : Addr) : Prop where
  rd : ClX.CRead K C (.type "type")
  at_ : ∃ p, PySem.W.findCls K (.ref C) (.type "type") m = some (.get (.builtin "staticmethod.__get__") (.ref p) .none (.ref C)) ∧ ∃ rest, PySem.W.recIn K p "staticmethod" = some (.ref g :: rest)
section
variable {X : Cx} {CX : CXT} {k : Nat} {C g : Addr} {fd : FuncData} {ps : List Str} {ds : List Value} {dvs : List V} {sp : Sp} {E : XK} {Es : L2.St → XK} {x m : Str} {p1 p2 pos : Pos} {e : Expr} {es : List Expr} {t : TA} {pl : Sem Bool}
theorem smet_get {pins : List (Addr × Obj)} {σ : L2.St} {H : Hp} {s : Shared} {A : Around} {E' : Value → Shared → Prop} {Q : Value × List Value → Shared → Prop} (I : Inv X pins σ H s) (r : SMet X.K C m g) (h : ∀ s', Inv X pins σ H s' → Q (.ref g, []) s') : wpAny (model X.prog X.w) A (getMethod (.ref C) m pl) Q E' s := by
  obtain ⟨p, ea, rest, er⟩ := r.at_
  refine PySem.W.method_cls I.kIn r.rd.ga ?_
  refine PySem.W.cls_bind I.kIn r.rd.rd ea ?_
  exact wpAny_call (PySem.W.sm_get (s := { s with toks := s.toks + 1 }) I.kIn er (PySem.W.handed_on rfl (h _ (I.tok _))))
/-- C.m(e, ..), m a static method; what it lets out is wished for at the slots as they stand -/
theorem pe_smethA (F : FnOk X.prog X.w X.K X.mg X.base CX k g fd ps sp) (hr : Room k X.A) (r : SMet X.K C m g) (hk : PySem.W.keepIn X.K (.ref g) = true) (hb : Binds X.K fd ps []) (hx : ∀ σ, PassesAt CX X σ (Es σ)) (hg : Gl X x) (hm : X.mg x = some (.ref C)) (ha : PA X (e :: es) t)
    (hd : (x == ("__debug__" : Str)) = false := by decide)
    (hcall : eval (.Call (.Attribute (.Name x p1) m p2) (e :: es) [] pos) X.env = (eval (.Name x p1) X.env >>= fun ov => standAt p2.atName >>= fun _ => holding [ov] (getMethod ov m pl) >>= fun q =>
      callWith pos q.1 q.2 (backTo pos (starEach (e :: es) X.env)) (backToKw pos (keywordEach [] X.env))) := by rfl)
    (hst : starEach (e :: es) X.env = (false, eval e X.env) :: starEach es X.env := by rfl) (hnp : (backTo pos (starEach es X.env)).any (·.1) = false := by rfl) :
    PE X (.Call (.Attribute (.Name x p1) m p2) (e :: es) [] pos) (tCallS sp Es t) := by
  constructor
  intro pins s σ H Q I h
  refine PySem.W.methodCall_KW (ld_glob I hg hm ?_ hd) hcall
  refine smet_get (I.tok _) r fun s2 I2 => ?_
  refine PySem.W.callWith_K (h₀ := X.base) I2.ok.mod.kin hk (thn (ha.run pos pins _ σ H _ I2 h) fun us s1 q1 => ?_) hst hnp
  obtain ⟨vs, H1, I1, r1, q⟩ := q1
  exact ⟨I1.kIn, run_fnS F hr hb (hx σ) I1 r1 q⟩
theorem pe_smeth (F : FnOk X.prog X.w X.K X.mg X.base CX k g fd ps sp) (hr : Room k X.A) (r : SMet X.K C m g) (hk : PySem.W.keepIn X.K (.ref g) = true) (hb : Binds X.K fd ps []) (hx : Passes CX X E) (hg : Gl X x) (hm : X.mg x = some (.ref C)) (ha : PA X (e :: es) t)
    (hd : (x == ("__debug__" : Str)) = false := by decide)
    (hcall : eval (.Call (.Attribute (.Name x p1) m p2) (e :: es) [] pos) X.env = (eval (.Name x p1) X.env >>= fun ov => standAt p2.atName >>= fun _ => holding [ov] (getMethod ov m pl) >>= fun q =>
      callWith pos q.1 q.2 (backTo pos (starEach (e :: es) X.env)) (backToKw pos (keywordEach [] X.env))) := by rfl)
    (hst : starEach (e :: es) X.env = (false, eval e X.env) :: starEach es X.env := by rfl) (hnp : (backTo pos (starEach es X.env)).any (·.1) = false := by rfl) :
    PE X (.Call (.Attribute (.Name x p1) m p2) (e :: es) [] pos) (tCallS sp (fun _ => E) t) := pe_smethA F hr r hk hb (fun σ pins H s e s' I c => hx pins σ H s e s' I c) hg hm ha hd hcall hst hnp
/-- C.m() -/
theorem pe_smeth0 (F : FnOk X.prog X.w X.K X.mg X.base CX k g fd ps sp) (hr : Room k X.A) (r : SMet X.K C m g) (hk : PySem.W.keepIn X.K (.ref g) = true) (hb : Binds X.K fd ps []) (hx : Passes CX X E) (hg : Gl X x) (hm : X.mg x = some (.ref C))
    (hd : (x == ("__debug__" : Str)) = false := by decide)
    (hcall : eval (.Call (.Attribute (.Name x p1) m p2) [] [] pos) X.env = (eval (.Name x p1) X.env >>= fun ov => standAt p2.atName >>= fun _ => holding [ov] (getMethod ov m pl) >>= fun q =>
      callWith pos q.1 q.2 (backTo pos (starEach [] X.env)) (backToKw pos (keywordEach [] X.env))) := by rfl) :
    PE X (.Call (.Attribute (.Name x p1) m p2) [] [] pos) (tCallS sp (fun _ => E) tNil) := by
  constructor
  intro pins s σ H Q I h
  refine PySem.W.methodCall_KW (ld_glob I hg hm ?_ hd) hcall
  refine smet_get (I.tok _) r fun s2 I2 => ?_
  exact PySem.W.callWith_K0 I2.kIn hk (run_fnS (us := []) (E := fun _ => E) F hr hb (fun pins H s e s' I c => hx pins σ H s e s' I c) I2 .nil h)
/-- str(x), x an instance of an own class with its own __str__ -/
def rOwnS (C : Addr) (sp : Sp) (E : XK) : List V → Hp → VK → Prop := fun xs H Q => ∃ a dx fs, xs = [.ref a] ∧ H a = some (.ins C dx fs) ∧ sp [.ref a] H (fun z H' => ∃ y : Str, z = .str y ∧ Q (.str y) H') E
theorem call_strOwn (m : OwnM X.K C g "__str__") (F : FnOk X.prog X.w X.K X.mg X.base CX k g fd ps sp) (hr : Room (k + 2) X.A) (hb : Binds X.K fd ps []) (hx : Passes CX X E) : CallR X (.type "str") (rOwnS C sp E) := by
  intro pins s σ H xs us Q I r h
  obtain ⟨a, dx, fs, rfl, ha, q⟩ := h
  obtain ⟨u, rfl, r1⟩ := vals1 r
  cases (show u = Value.ref a from r1)
  obtain ⟨od, J⟩ := inst_at I ha
  refine PySem.W.kso_call hr.in1.in1.units0 I.kIn J m.at_ m.fn (thn (run_deep1 F hr.in1.in1 I.env0.in1.in1 hb hx I rel_ref q) fun w s' z => ?_)
  obtain ⟨z', H', I', rz, y, rfl, qz⟩ := z
  obtain ⟨t, rfl⟩ := (show ∃ t, w = Value.str y t from rz)
  exact ⟨.str y, H', I', ⟨t, rfl⟩, qz⟩
end
end AT

end

section
set_option maxHeartbeats 1000000
/-! Texts as lists of code points: readings and steps. -/
namespace AT
open PySem PySem.Spec PyProof.Rows L2 SX
open Builtin.Str in
theorem occ_full (s sub : Str) (hi : Nat) : ∀ (l : List Nat) (st : Array Nat × Nat), 1 ≤ st.fst.size → (forIn l st (StrLaws.occBody s sub hi 1)).run.fst = st.fst
  | [], st, h => rfl
  | a :: l, st, h => by
    rw [List.forIn_cons]
    unfold StrLaws.occBody
    have c : ¬ (((st.fst.size < 1 ∧ st.snd ≤ a) ∧ a + sub.length ≤ hi) ∧ subAt s sub a = true) := fun z => by have := z.1.1.1; omega
    rw [if_neg c]
    exact occ_full s sub hi l st h
open Builtin.Str in
theorem occ_first (s sub : Str) (hi k : Nat) (hk : k + sub.length ≤ hi ∧ subAt s sub k = true) : ∀ (m a free : Nat), free ≤ a → a ≤ k → k < a + m → (∀ i, a ≤ i → i < k → ¬ (i + sub.length ≤ hi ∧ subAt s sub i = true)) →
    (forIn (List.range' a m) ((#[] : Array Nat), free) (StrLaws.occBody s sub hi 1)).run.fst = #[k]
  | 0, a, free, h1, h2, h3, h4 => by omega
  | m + 1, a, free, h1, h2, h3, h4 => by
    rw [List.range'_succ, List.forIn_cons]
    unfold StrLaws.occBody
    by_cases e : a = k
    · subst e
      rw [if_pos ⟨⟨⟨by simp, h1⟩, hk.1⟩, hk.2⟩]
      exact occ_full s sub hi _ _ (by simp)
    · have c : ¬ (((((#[] : Array Nat), free).fst.size < 1 ∧ ((#[] : Array Nat), free).snd ≤ a) ∧ a + sub.length ≤ hi) ∧ subAt s sub a = true) := fun z => h4 a (Nat.le_refl _) (by omega) ⟨z.1.2, z.2⟩
      rw [if_neg c]
      exact occ_first s sub hi k hk m (a + 1) free (by omega) (by omega) (by omega) fun i hi' hk' => h4 i (by omega) hk'
theorem find_at {p r : List Nat} {c : Nat} (h : c ∉ p) : Txt.find (S (p ++ c :: r)) (S [c]) = (p.length : Int) := by
  have hk : p.length + (S [c]).length ≤ (S (p ++ c :: r)).length ∧ Builtin.Str.subAt (S (p ++ c :: r)) (S [c]) p.length = true := (StrLaws.subAt_one _ c _).mpr (by
    show (p ++ c :: r)[p.length]? = some c
    simp)
  have hn : ∀ i, 0 ≤ i → i < p.length → ¬ (i + (S [c]).length ≤ (S (p ++ c :: r)).length ∧ Builtin.Str.subAt (S (p ++ c :: r)) (S [c]) i = true) := fun i _ hi z => by
    have e : (p ++ c :: r)[i]? = some c := (StrLaws.subAt_one (S (p ++ c :: r)) c i).mp z
    rw [List.getElem?_append_left hi] at e
    exact h (List.mem_of_getElem? e)
  have e : Builtin.Str.occurrences (S (p ++ c :: r)) (S [c]) 0 (S (p ++ c :: r)).length 1 = [p.length] := by
    rw [StrLaws.occ_eq, occ_first _ _ _ _ hk _ 0 0 (Nat.le_refl _) (Nat.zero_le _) (by rw [S_len]; simp; omega) hn]
  unfold Txt.find
  rw [e]
theorem find_no {l : List Nat} {c : Nat} (h : c ∉ l) : Txt.find (S l) (S [c]) = -1 := by
  have e := in_one l c
  rw [decide_eq_false h] at e
  unfold Txt.find
  cases hz : Builtin.Str.occurrences (S l) (S [c]) 0 (S l).length 1 with
  | nil => rfl
  | cons a r => rw [hz] at e; simp at e
theorem split_no {l : List Nat} {c : Nat} (hc : c < 256) (h : c ∉ l) : Txt.split (S l) (S [c]) = [S l] := by
  rw [split_S (List.cons_ne_nil _ _) (by simp [hc]), TL.spl_last1 h]
  rfl
theorem split_at {p r : List Nat} {c : Nat} (hc : c < 256) (h : c ∉ p) : Txt.split (S (p ++ c :: r)) (S [c]) = S p :: (TL.spl [c] 0 [] r).map S := by
  rw [split_S (List.cons_ne_nil _ _) (by simp [hc]), show p ++ c :: r = p ++ ([c] ++ r) from rfl, TL.spl_part1 h]
  rfl
theorem mem_first {c : Nat} : ∀ {r : List Nat}, c ∈ r → ∃ p q, r = p ++ c :: q ∧ c ∉ p
  | [], h => by cases h
  | a :: r, h => by
    by_cases e : a = c
    · exact ⟨[], r, by rw [e]; rfl, by simp⟩
    · obtain ⟨p, q, e1, e2⟩ := mem_first (r := r) (by rcases List.mem_cons.mp h with z | z; exact absurd z.symm e; exact z)
      exact ⟨a :: p, q, by rw [e1]; rfl, by simp [e2]; exact fun z => e z.symm⟩
theorem spl_len {r : List Nat} {c : Nat} (h : c ∈ r) : 2 ≤ (TL.spl [c] 0 [] r).length := by
  obtain ⟨p, q, rfl, hp⟩ := mem_first h
  rw [show p ++ c :: q = p ++ ([c] ++ q) from rfl, TL.spl_part1 hp]
  cases q with
  | nil => simp [TL.spl_nil]
  | cons a q =>
    have := TL.spl_pass [c] 0 [] (a :: q)
    cases hz : TL.spl [c] 0 [] (a :: q) with
    | nil =>
      exfalso
      have f : ∀ (l acc : List Nat), TL.spl [c] 0 acc l ≠ [] := fun l => by
        induction l with
        | nil => intro acc; rw [TL.spl_nil]; simp
        | cons b l ih =>
          intro acc
          cases hb : TL.pre [c] (b :: l) with
          | true => rw [TL.spl_hit hb]; simp
          | false => rw [TL.spl_miss hb]; exact ih _
      exact f _ _ hz
    | cons x y => simp
/-- where c is: nowhere, or first behind p -/
theorem first_of (c : Nat) : ∀ l : List Nat, c ∉ l ∨ ∃ p r, l = p ++ c :: r ∧ c ∉ p
  | [] => .inl (by simp)
  | a :: l => by
    by_cases e : a = c
    · exact .inr ⟨[], l, by rw [e]; rfl, by simp⟩
    · rcases first_of c l with h | ⟨p, r, e1, e2⟩
      · exact .inl (by simp [h]; exact fun z => e z.symm)
      · exact .inr ⟨a :: p, r, by rw [e1]; rfl, by simp [e2]; exact fun z => e z.symm⟩
/-- readings -/
theorem pe_strS {X : Cx} {x : Str} {j} {pos : Pos} {l : List Nat} (e : x = S l) : PE X (.Constant (.str x) j pos) (tC (.str (S l))) := by
  subst e
  exact pe_str
def rInS : R2 := fun x y H Q => ∃ (c : Nat) (z : Str), x = .str ⟨#[c]⟩ ∧ y = .str z ∧ Q (.bl (decide (c ∈ z.cps.toList))) H
def rNotInS : R2 := fun x y H Q => ∃ (c : Nat) (z : Str), x = .str ⟨#[c]⟩ ∧ y = .str z ∧ Q (.bl (!decide (c ∈ z.cps.toList))) H
theorem op_inS {X : Cx} : OpR X (compareOp .In) rInS := op_in_sign
theorem op_notInS {X : Cx} : OpR X (compareOp .NotIn) rNotInS := op_notIn_sign
def rLenT : List V → Hp → VK → Prop := fun xs H Q => ∃ z, xs = [.str z] ∧ z.length ≤ sizeLine ∧ Q (.int z.length) H
theorem call_lenT {X : Cx} : CallR X (.builtin "len") rLenT := call_len_str
def rIntT : List V → Hp → VK → Prop := fun xs H Q => ∃ a n, xs = [.str a] ∧ PySem.intText? a = some n ∧ a.length ≤ 640 ∧ Q (.int n) H
theorem call_intT {X : Cx} : CallR X (.type "int") rIntT := call_int_str
def rFind : V → List V → Hp → VK → Prop := fun x xs H Q => ∃ a b, x = .str a ∧ xs = [.str b] ∧ Q (.int (Txt.find a b)) H
theorem mt_findN {X : Cx} : MtR X "str.find" rFind := mt_find
def rSplit : V → List V → Hp → VK → Prop := fun x xs H Q => ∃ a b, x = .str a ∧ xs = [.str b] ∧ (b.length == 0) = false ∧ a.length + 2 ≤ sizeLine ∧ rNewStrs (Txt.split a b) H Q
theorem mt_splitN {X : Cx} : MtR X "str.split" rSplit := mt_split
def rCatT : R2 := fun x y H Q => ∃ i j, x = .str i ∧ y = .str j ∧ i.length + j.length ≤ sizeLine ∧ Q (.str (i ++ j)) H
theorem op_catT {X : Cx} : OpR X (binaryOp .Add) rCatT := op_add_str
theorem zl {n : Nat} (h : n ≤ 100000) : n ≤ sizeLine := Nat.le_trans h (by decide)
section
variable {σ : L2.St} {H : Hp} {Q : VK} {l m : List Nat} {c : Nat} {i j : Int} {n : Nat} {te : TE} {tl th : TO} {r : V → Option Int → Option Int → Hp → VK → Prop} {QO : Option Int → Hp → Prop}
theorem w_inS (h : Q (.bl (decide (c ∈ l))) H) : rInS (.str (S [c])) (.str (S l)) H Q := ⟨c, S l, rfl, rfl, h⟩
theorem w_notInS (h : Q (.bl (!decide (c ∈ l))) H) : rNotInS (.str (S [c])) (.str (S l)) H Q := ⟨c, S l, rfl, rfl, h⟩
theorem w_lenT' (hl : l.length ≤ 100000) (h : Q (.int (l.length : Int)) H) : rLenT [.str (S l)] H Q := ⟨S l, rfl, by rw [S_len]; exact zl hl, by rw [S_len]; exact h⟩
theorem w_intT (e : PySem.intText? (S l) = some i) (hl : l.length ≤ 640) (h : Q (.int i) H) : rIntT [.str (S l)] H Q := ⟨S l, i, rfl, e, by rw [S_len]; exact hl, h⟩
theorem w_catT (hl : l.length + m.length ≤ 100000) (h : Q (.str (S (l ++ m))) H) : rCatT (.str (S l)) (.str (S m)) H Q := ⟨S l, S m, rfl, rfl, by rw [S_len, S_len]; exact zl hl, by rw [S_cat]; exact h⟩
theorem w_ixS (hl : l.length ≤ 100000) (e : atI l i = some c) (h : Q (.str (S [c])) H) : rIxS (.str (S l)) (.int i) H Q := ⟨S l, i, c, rfl, rfl, by rw [S_len]; exact zl hl, e, h⟩
theorem w_eqT (h : Q (.bl (decide (l = m))) H) : rEq (.str (S l)) (.str (S m)) H Q := ⟨rfl, by
  have e : decide (V.str (S l) = V.str (S m)) = decide (l = m) := by rw [decide_eq_decide]; exact ⟨fun z => S_inj (V.str.inj z), fun z => by rw [z]⟩
  rw [e]
  exact h⟩
theorem w_neT (h : Q (.bl (!decide (l = m))) H) : rNe (.str (S l)) (.str (S m)) H Q := ⟨rfl, by
  have e : decide (V.str (S l) = V.str (S m)) = decide (l = m) := by rw [decide_eq_decide]; exact ⟨fun z => S_inj (V.str.inj z), fun z => by rw [z]⟩
  rw [e]
  exact h⟩
theorem w_sl (h : te σ H fun x H1 => tl σ H1 fun l H2 => th σ H2 fun u H3 => r x l u H3 Q) : tSl r te tl th σ H Q := h
theorem w_noPart (h : QO none H) : tNoPart σ H QO := h
theorem w_part (h : te σ H fun x H1 => ∃ i, x = .int i ∧ QO (some i) H1) : tPart te σ H QO := h
theorem w_partI {P : Int → Prop} (h : P i) : ∃ j, V.int i = .int j ∧ P j := ⟨i, rfl, h⟩
theorem w_slTo (h0 : 0 ≤ i) (hl : l.length ≤ 100000) (h : Q (.str (S (l.take i.toNat))) H) : C8.rSlX (.str (S l)) none (some i) H Q := ⟨S l, rfl, by rw [S_len]; exact zl hl, by rw [slice_to h0]; exact h⟩
theorem w_slFrom (h0 : 0 ≤ i) (hl : l.length ≤ 100000) (h : Q (.str (S (l.drop i.toNat))) H) : C8.rSlX (.str (S l)) (some i) none H Q := ⟨S l, rfl, by rw [S_len]; exact zl hl, by rw [slice_from h0]; exact h⟩
theorem slice_mid {a : List Nat} {i j : Nat} (h : i ≤ j) : Txt.slice (S a) (some (i : Int)) (some (j : Int)) = S ((a.drop i).take (j - i)) := by
  rw [← C8.cutS_slice]
  unfold cutS
  rw [HT.sIx_nat, HT.sIx_nat, S_len]
  show S (((a.drop (min i a.length)).take (min j a.length - min i a.length))) = _
  congr 1
  by_cases hi : i ≤ a.length
  · rw [Nat.min_eq_left hi]
    by_cases hj : j ≤ a.length
    · rw [Nat.min_eq_left hj]
    · rw [Nat.min_eq_right (by omega), List.take_of_length_le (by rw [List.length_drop]; omega), List.take_of_length_le (by rw [List.length_drop]; omega)]
  · have e1 : min i a.length = a.length := Nat.min_eq_right (by omega)
    rw [e1, List.drop_eq_nil_of_le (Nat.le_refl _), List.drop_eq_nil_of_le (by omega)]
    simp
theorem w_slMid {i j : Nat} {u v : Int} (eu : u = (i : Int)) (ev : v = (j : Int)) (h0 : i ≤ j) (hl : l.length ≤ 100000) (h : Q (.str (S ((l.drop i).take (j - i)))) H) : C8.rSlX (.str (S l)) (some u) (some v) H Q := ⟨S l, rfl, by rw [S_len]; exact zl hl, by rw [eu, ev, slice_mid h0]; exact h⟩
end
/-- for c in text -/
theorem for_str {l : List Nat} {g : TG} {tb : TS} {D : Ends} {σ : L2.St} {H : Hp} (Pv : Nat → L2.St → Hp → Prop) (h0 : Pv 0 σ H)
    (hs : ∀ i c σ H, l[i]? = some c → Pv i σ H → g (.str (S [c])) σ H fun σ2 H2 => tb { D with nx := Pv (i + 1), ct := Pv (i + 1), bk := D.nx } σ2 H2) (hd : ∀ σ H, Pv l.length σ H → D.nx σ H) :
    ∃ W : Nat → Nat → L2.St → Hp → Prop, (∃ m, W 0 m σ H) ∧ ∀ i m σ H, W i m σ H →
      ((Its (S l)).stop i H ∧ D.nx σ H) ∨ ((Its (S l)).go i H ∧ ∃ N : L2.St → Hp → Prop, (∀ σ' H', N σ' H' → ∃ m', m' < m ∧ W (i + 1) m' σ' H') ∧ ∀ x H', (Its (S l)).yld i H x H' → g x σ H' fun σ2 H2 => tb { D with nx := N, ct := N, bk := D.nx } σ2 H2) := by
  refine ⟨fun i m σ H => m = l.length - i ∧ i ≤ l.length ∧ Pv i σ H, ⟨l.length, by simp, Nat.zero_le _, h0⟩, ?_⟩
  rintro i m σ H ⟨rfl, hi, p⟩
  by_cases hlt : i < l.length
  · refine .inr ⟨by show i < l.toArray.size; simpa using hlt, Pv (i + 1), fun σ' H' p' => ⟨l.length - (i + 1), by omega, rfl, hlt, p'⟩, fun x H' y => ?_⟩
    obtain ⟨e, c, hc, ex⟩ := y
    subst e
    subst ex
    exact hs i c σ _ (by simpa using hc) p
  · have e : i = l.length := by omega
    subst e
    exact .inl ⟨by show l.toArray.size ≤ l.length; simp, hd σ H p⟩
theorem lc_str {l : List Nat} {g : TG} {tt : TT} {te : TE} {vs : List Nat} {σ : L2.St} {H1 : Hp} {D : Addr} {Qd : Hp → Prop} (Pv : Nat → Hp → Prop) (h0 : Pv 0 (upd H1 D (.lst [])))
    (hs : ∀ i c H, l[i]? = some c → Pv i H → g (.str (S [c])) (wipe σ vs) H fun σ2 H2 => wipe σ2 vs = wipe σ vs ∧ tt σ2 H2 fun b H3 =>
      if b = true then te σ2 H3 fun y H4 => ∃ acc, H4 D = some (.lst acc) ∧ acc.length < sizeLine ∧ Pv (i + 1) (upd H4 D (.lst (acc ++ [y]))) else Pv (i + 1) H3) (hd : ∀ H, Pv l.length H → Qd H) :
    ∃ W : Nat → Nat → Hp → Prop, (∃ m, W 0 m (upd H1 D (.lst []))) ∧ ∀ i m H, W i m H →
      ((Its (S l)).stop i H ∧ Qd H) ∨ ((Its (S l)).go i H ∧ ∃ Nx : Hp → Prop, (∀ H', Nx H' → ∃ m', m' < m ∧ W (i + 1) m' H') ∧ ∀ x H', (Its (S l)).yld i H x H' → g x (wipe σ vs) H' fun σ2 H2 => wipe σ2 vs = wipe σ vs ∧ tt σ2 H2 fun b H3 =>
        if b = true then te σ2 H3 fun y H4 => ∃ acc, H4 D = some (.lst acc) ∧ acc.length < sizeLine ∧ Nx (upd H4 D (.lst (acc ++ [y]))) else Nx H3) := by
  refine ⟨fun i m H => m = l.length - i ∧ i ≤ l.length ∧ Pv i H, ⟨l.length, by simp, Nat.zero_le _, h0⟩, ?_⟩
  rintro i m H ⟨rfl, hi, p⟩
  by_cases hlt : i < l.length
  · refine .inr ⟨by show i < l.toArray.size; simpa using hlt, Pv (i + 1), fun H' p' => ⟨l.length - (i + 1), by omega, rfl, hlt, p'⟩, fun x H' y => ?_⟩
    obtain ⟨e, c, hc, ex⟩ := y
    subst e
    subst ex
    exact hs i c _ (by simpa using hc) p
  · have e : i = l.length := by omega
    subst e
    exact .inl ⟨by show l.toArray.size ≤ l.length; simp, hd H p⟩
theorem w_iStr {te : TE} {σ : L2.St} {H : Hp} {R : It → Hp → Prop} (h : te σ H fun v H1 => ∃ x, v = .str x ∧ R (Its x) H1) : iStr te σ H R := h
theorem w_m1 {r : V → List V → Hp → VK → Prop} {to te : TE} {σ : L2.St} {H : Hp} {Q : VK} (h : tM1 r to te σ H Q) : tM1 r to te σ H Q := h
theorem w_itS {l : List Nat} {H : Hp} {R : It → Hp → Prop} (h : R (Its (S l)) H) : ∃ x, V.str (S l) = .str x ∧ R (Its x) H := ⟨S l, rfl, h⟩
end AT

end

section
set_option maxHeartbeats 1000000
/-! Operators of an own class by the method's name; written dicts with text keys. -/
namespace AT
open PySem PySem.Spec PyProof.Rows L2
theorem dn_or : PySem.dunder (Operator.info .BitOr).2 = "__or__" := by decide +kernel
theorem dn_and : PySem.dunder (Operator.info .BitAnd).2 = "__and__" := by decide +kernel
theorem dn_xor : PySem.dunder (Operator.info .BitXor).2 = "__xor__" := by decide +kernel
theorem dn_lshift : PySem.dunder (Operator.info .LShift).2 = "__lshift__" := by decide +kernel
theorem dn_rshift : PySem.dunder (Operator.info .RShift).2 = "__rshift__" := by decide +kernel
theorem dr_or : dunderR (Operator.info .BitOr).2 = "__ror__" := by decide +kernel
theorem dr_and : dunderR (Operator.info .BitAnd).2 = "__rand__" := by decide +kernel
theorem dr_xor : dunderR (Operator.info .BitXor).2 = "__rxor__" := by decide +kernel
theorem dr_lshift : dunderR (Operator.info .LShift).2 = "__rlshift__" := by decide +kernel
theorem dr_rshift : dunderR (Operator.info .RShift).2 = "__rrshift__" := by decide +kernel
section
variable {X : Cx} {CX : CXT} {C g : Addr} {fd : FuncData} {ps : List Str} {n : Nat} {sp : Sp} {E : XK} {op : Operator} {nm : Str}
/-- x op y, both of the class C -/
theorem op_own2 (o : OwnC X.K C) (m : OwnM X.K C g nm) (e : PySem.dunder op.info.2 = nm) (F : FnOk X.prog X.w X.K X.mg X.base CX n g fd ps sp) (hr : Room n X.A) (hb : Binds X.K fd ps []) (hx : Passes CX X E) : OpR X (binaryOp op) (rInsIns C sp E) := by
  subst e
  exact op_insIns o m F hr hb hx
end
/-- x in d, d a written dict -/
def rInKd (K : PySem.W.Frag) (d : Addr) : R2 := fun x y H Q => ∃ (z : Str) (r : Option Value), x = .str z ∧ y = .ref d ∧ PySem.W.nsIn K d z = some r ∧ Q (.bl r.isSome) H
theorem op_inKd {X : Cx} {d : Addr} {es : Array DictEntry} {n : Nat} (D : KDict X.K X.w d es n) : OpR X (compareOp .In) (rInKd X.K d) := op_in_kd D
theorem w_inKd {K : PySem.W.Frag} {d : Addr} {z : Str} {r : Option Value} {H : Hp} {Q : VK} (e : PySem.W.nsIn K d z = some r) (h : Q (.bl r.isSome) H) : rInKd K d (.str z) (.ref d) H Q := ⟨z, r, rfl, rfl, e, h⟩
def rInSeq (K : PySem.W.Frag) : R2 := rIn K false
theorem op_inSeq {X : Cx} : OpR X (compareOp .In) (rInSeq X.K) := op_in_seq
end AT

end

section
/-! The head by one kernel run and a Hook of our own: what the top has written, told by names. -/
namespace AHd
open PySem PySem.Spec PyProof.Rows L2
abbrev Fr : Type := PySem.W.Frag
/-- a def at an address -/
structure DX where
  loc : Fr → Addr
  nm : Str
  ql : Str
  pr : Arguments
  bd : List Stmt
  sp : Scope
  df : List He.Dv
  kw : List (Str × He.Dv)
def fdOf (K : Fr) (a : Addr) : Option FuncData := (K.lookup a).bind fun o => match o.data with
  | .func f => some f
  | _ => none
abbrev Seen : Type := Option (Str × Str × Arguments × FuncBody × Scope × Addr × List (Str × Addr) × Addr)
def seenAt (K : Fr) (a : Addr) : Seen := (fdOf K a).map fun f => (f.name, f.qualname, f.params, f.body, f.scope, f.globals, f.closure, f.builtins)
def DX.due (d : DX) : Seen := some (d.nm, d.ql, d.pr, .stmts d.bd, d.sp, mainGlobals, [], builtinsNs)
def DX.vs (K : Fr) (d : DX) : List V := d.df.map (He.Dv.v K)
def DX.ks (K : Fr) (d : DX) : List (Str × V) := d.kw.map fun q => (q.1, q.2.v K)
def DX.fine (K : Fr) (d : DX) : Bool := PySem.W.keepIn K (.ref (d.loc K)) && (match fdOf K (d.loc K) with
  | some f => PySem.W.codeIn K f.code d.ql && (He.dflB K f.defaults (d.vs K) && He.kwdB K f.kwdefaults (d.ks K))
  | none => false)
theorem fd_look {K : Fr} {a : Addr} {f : FuncData} (h : fdOf K a = some f) : ∃ oc od osl, K.lookup a = some ⟨oc, od, .func f, osl⟩ := by
  unfold fdOf at h
  obtain ⟨⟨oc, od, dt, osl⟩, e, z⟩ := Option.bind_eq_some_iff.mp h
  cases dt with
  | func g =>
    have := Option.some.inj z
    subst this
    exact ⟨oc, od, osl, e⟩
  | _ => cases z
theorem DX.get {K : Fr} {d : DX} (e : seenAt K (d.loc K) = d.due) (c : d.fine K = true) : ∃ fd, FunD K d.nm d.ql d.pr d.bd d.sp (d.vs K) (d.ks K) (d.loc K) fd := by
  obtain ⟨kp, c2⟩ := Bool.and_eq_true_iff.mp c
  cases q : fdOf K (d.loc K) with
  | none => rw [q] at c2; cases c2
  | some f =>
    rw [q] at c2
    unfold seenAt at e
    rw [q] at e
    obtain ⟨m1, m2, m3, m4, m5, m6, m7, m8, m9, m10, m11, m12, m13, m14, m15⟩ := f
    have e2 := Option.some.inj e
    injection e2 with h1 e2
    injection e2 with h2 e2
    injection e2 with h3 e2
    injection e2 with h4 e2
    injection e2 with h5 e2
    injection e2 with h6 e2
    injection e2 with h7 h8
    subst h1 h2 h3 h4 h5 h6 h7 h8
    obtain ⟨k1, c3⟩ := Bool.and_eq_true_iff.mp c2
    obtain ⟨k3, k4⟩ := Bool.and_eq_true_iff.mp c3
    obtain ⟨oc, od, osl, lk⟩ := fd_look q
    exact ⟨_, ⟨oc, od, m8, m9, m10, m11, m12, m13, m14, osl, rfl, lk, k1, He.dflB_ok k3, He.kwdB_ok k4⟩, kp⟩
theorem fun_of {K : Fr} {x qual : Str} {st : Stmt} {f : Addr} {fd : FuncData} (F : FunD K x qual (defArgs st) (defBody st) (defScope st) [] [] f fd) : Fun K x qual st f fd := by
  obtain ⟨⟨oc, od, dV, kV, doc, pm, an, cdv, ct, osl, e, lk, c, hd, _⟩, kp⟩ := F
  rcases hd with ⟨_, rfl⟩ | ⟨h, _⟩
  · exact ⟨⟨oc, od, kV, doc, pm, an, cdv, ct, osl, e, lk, c⟩, kp⟩
  · exact absurd rfl h
/-! the Hook -/
abbrev Al : Type := (Bool × List Seen) × List (Option (List (Option (Str × Int))))
def tell (ok : Fr → Bool) (fn : List DX) (ts : List He.Tab) (K : Fr) : Al := ((ok K && fn.all fun d => d.fine K, fn.map fun d => seenAt K (d.loc K)), ts.map fun t => He.dicW K (t.1 K))
def told (fn : List DX) (ts : List He.Tab) (w : World) : Al := ((true, fn.map DX.due), ts.map fun t => some (He.keysIn w.params t.2))
def Says (ok : Fr → Bool) (fn : List DX) (ts : List He.Tab) (w : World) (K : Fr) : Prop := tell ok fn ts K = told fn ts w
/-- all objects below n -/
def frN (n : Nat) (g : Addr → Option Obj) : Fr := He.frG g (List.range n)
def hk (n : Nat) (ok : Fr → Bool) (fn : List DX) (ts : List He.Tab) : PySem.W.Hook where
  α := Al
  obs := fun s => tell ok fn ts (frN n s.heap.get?)
  val := fun w => told fn ts w
  says := fun w h => ∃ K : Fr, K.In h ∧ Says ok fn ts w K
  of := fun _ _ e => ⟨_, He.frG_in, e⟩
  keeps := fun _ _ _ ⟨K, hK, c⟩ k => ⟨K, PySem.W.Frag.In.keeps hK k, c⟩
def ob (n : Nat) (ok : Fr → Bool) (fn : List DX) (ts : List He.Tab) (s : PySem.W.SharedT) : Al := tell ok fn ts (frN n (HandSHeadRun.getT s))
theorem ob_eq {n : Nat} {ok : Fr → Bool} {fn : List DX} {ts : List He.Tab} (s : PySem.W.SharedT) : ob n ok fn ts s = (hk n ok fn ts).obs s.abs := by
  show tell ok fn ts (frN n (HandSHeadRun.getT s)) = tell ok fn ts (frN n s.abs.heap.get?)
  rw [show HandSHeadRun.getT s = s.abs.heap.get? from funext (HandSHeadRun.getT_eq s)]
section
variable {ok : Fr → Bool} {fn : List DX} {ts : List He.Tab} {w : World} {K : Fr}
theorem Says.fst (c : Says ok fn ts w K) : (ok K && fn.all fun d => d.fine K) = true := congrArg (fun z : Al => z.1.1) c
theorem Says.okk (c : Says ok fn ts w K) : ok K = true := (Bool.and_eq_true_iff.mp c.fst).1
theorem Says.fnn (c : Says ok fn ts w K) (i : Nat) {d : DX} (h : fn[i]? = some d) : ∃ fd, FunD K d.nm d.ql d.pr d.bd d.sp (d.vs K) (d.ks K) (d.loc K) fd := by
  have e : fn.map (fun d => seenAt K (d.loc K)) = fn.map DX.due := congrArg (fun z : Al => z.1.2) c
  have e2 : (fn.map fun d => seenAt K (d.loc K))[i]? = (fn.map DX.due)[i]? := by rw [e]
  rw [List.getElem?_map, List.getElem?_map, h] at e2
  exact DX.get (Option.some.inj e2) (List.all_eq_true.mp (Bool.and_eq_true_iff.mp c.fst).2 d (List.mem_of_getElem? h))
theorem Says.tab (c : Says ok fn ts w K) (i : Nat) {t : He.Tab} (h : ts[i]? = some t) : ∃ es n, KDict K w (t.1 K) es n := by
  have e : ts.map (fun t => He.dicW K (t.1 K)) = ts.map fun t => some (He.keysIn w.params t.2) := congrArg (fun z : Al => z.2) c
  have e2 : (ts.map fun t => He.dicW K (t.1 K))[i]? = (ts.map fun t => some (He.keysIn w.params t.2))[i]? := by rw [e]
  rw [List.getElem?_map, List.getElem?_map, h] at e2
  exact He.dicW_ok (Option.some.inj e2)
theorem nth {l : List Bool} (h : (l.all fun b => b) = true) (i : Nat) {b : Bool} (e : l[i]? = some b) : b = true := List.all_eq_true.mp h b (List.mem_of_getElem? e)
end
/-! single facts -/
def veT : List Value := [.type "ValueError", .type "Exception", .type "BaseException", .type "object"]
def slB : List (Option Value) → Bool
  | [_, _, _, _, some (.builtin n), _] => decide (n = "ValueError.__new__")
  | _ => false
theorem slB_ok {l : List (Option Value)} (h : slB l = true) : ∃ k0 k1 k2 k3 k5, l = [k0, k1, k2, k3, some (.builtin "ValueError.__new__"), k5] := by
  unfold slB at h
  split at h
  · rename_i k0 k1 k2 k3 n k5
    exact ⟨k0, k1, k2, k3, k5, by rw [of_decide_eq_true h]⟩
  · cases h
/-- an own exception's class -/
def oexB (K : Fr) (C : Addr) : Bool := match K.lookup C with
  | some o => decide (o.cls = .type "type") && (match o.data with
    | .cls cd => cd.hasDict && (!cd.hasDel && (match cd.mro with
      | .ref c :: bm => decide (c = C) && PySem.HandSPX.refsVE bm
      | _ => false)) && slB o.slots.toList
    | _ => false)
  | none => false
theorem oexB_ok {K : Fr} {C : Addr} (h : oexB K C = true) : ∃ nm q N bs bm sn sub ab col dd k0 k1 k2 k3 k5, K.lookup C = some (excClassObj nm q C N bs bm true sn sub ab col dd k0 k1 k2 k3 k5 "ValueError.__new__") ∧ PySem.HandSPX.refsVE bm = true := by
  unfold oexB at h
  cases e : K.lookup C with
  | none => rw [e] at h; cases h
  | some o =>
    rw [e] at h
    obtain ⟨oc, od, dt, osl⟩ := o
    obtain ⟨h1, h⟩ := Bool.and_eq_true_iff.mp h
    have h1' : oc = .type "type" := of_decide_eq_true h1
    subst h1'
    cases dt with
    | cls cd =>
      obtain ⟨nm, bs, mro, ns, qn, hd, sn, sub, ab, col, del⟩ := cd
      obtain ⟨h2, h5⟩ := Bool.and_eq_true_iff.mp h
      obtain ⟨h3, h4⟩ := Bool.and_eq_true_iff.mp h2
      obtain ⟨h6, h7⟩ := Bool.and_eq_true_iff.mp h4
      dsimp only at h3 h5 h6 h7
      cases mro with
      | nil => cases h7
      | cons m bm =>
        cases m with
        | ref c =>
          obtain ⟨h8, h9⟩ := Bool.and_eq_true_iff.mp h7
          have h8' : c = C := of_decide_eq_true h8
          subst h8'
          obtain ⟨sl⟩ := osl
          dsimp only at h5
          have hs := slB_ok h5
          clear h h2 h4 h5 h7 h8 e
          obtain ⟨k0, k1, k2, k3, k5, rfl⟩ := hs
          cases hd with
          | false => cases h3
          | true =>
            cases del with
            | true => cases h6
            | false => exact ⟨nm, qn, ns, bs, bm, sn, sub, ab, col, od, k0, k1, k2, k3, k5, rfl, h9⟩
        | _ => cases h7
    | _ => cases h
/-- a class's mro -/
def mroB (K : Fr) (C : Addr) (l : List Value) : Bool := match PySem.W.clsIn K C with
  | some cd => decide (cd.mro = l)
  | none => false
theorem mroB_ok {K : Fr} {C : Addr} {l : List Value} (h : mroB K C l = true) : ∃ cd, PySem.W.clsIn K C = some cd ∧ cd.mro = l := by
  unfold mroB at h
  cases e : PySem.W.clsIn K C with
  | none => rw [e] at h; cases h
  | some cd => rw [e] at h; exact ⟨cd, rfl, of_decide_eq_true h⟩
/-- a record's first entry -/
def recB (K : Fr) (p : Addr) (T : String) (g : Addr) : Bool := match PySem.W.recIn K p T with
  | some (.ref a :: _) => decide (a = g)
  | _ => false
theorem recB_ok {K : Fr} {p : Addr} {T : String} {g : Addr} (h : recB K p T g = true) : ∃ rest, PySem.W.recIn K p T = some (.ref g :: rest) := by
  unfold recB at h
  split at h
  · rename_i a r e
    have : a = g := of_decide_eq_true h
    subst this
    exact ⟨r, e⟩
  · cases h
def recAt (K : Fr) (p : Addr) (T : String) : Addr := match PySem.W.recIn K p T with
  | some (.ref a :: _) => a
  | _ => 0
def smAt (K : Fr) (C : Addr) (m : Str) : Addr := match PySem.W.findCls K (.ref C) (.type "type") m with
  | some (.get _ (.ref p) _ _) => p
  | _ => 0
/-- a lookup that tells anything -/
def someB {α : Type} (x : Option α) : Bool := x.isSome
theorem someB_ok {α : Type} {x : Option α} (h : someB x = true) : ∃ y, x = some y := Option.isSome_iff_exists.mp h
/-- a written constant -/
def conB (K : Fr) (x : Str) (v : V) : Bool := match PySem.W.nsIn K mainGlobals x with
  | some (some u) => He.relB v u
  | _ => false
def conAt (K : Fr) (x : Str) : Value := match PySem.W.nsIn K mainGlobals x with
  | some (some u) => u
  | _ => .none
theorem conB_ok {K : Fr} {x : Str} {v : V} (h : conB K x v = true) : PySem.W.nsIn K mainGlobals x = some (some (conAt K x)) ∧ RelV v (conAt K x) := by
  unfold conB at h
  unfold conAt
  cases e : PySem.W.nsIn K mainGlobals x with
  | none => rw [e] at h; cases h
  | some o =>
    rw [e] at h
    cases o with
    | none => cases h
    | some u => exact ⟨rfl, He.relB_ok h⟩
/-- a dict's entry -/
def entB (K : Fr) (d : Addr) (x : Str) (v : V) : Bool := match PySem.W.nsIn K d x with
  | some (some u) => He.relB v u
  | _ => false
theorem entB_ok {K : Fr} {d : Addr} {x : Str} {v : V} (h : entB K d x v = true) : ∃ u, PySem.W.nsIn K d x = some (some u) ∧ RelV v u := by
  unfold entB at h
  cases e : PySem.W.nsIn K d x with
  | none => rw [e] at h; cases h
  | some o =>
    rw [e] at h
    cases o with
    | none => cases h
    | some u => exact ⟨u, rfl, He.relB_ok h⟩
def fcB : Option PySem.W.CFound → PySem.W.CFound → Bool
  | some (.val u), .val v => decide (u = v)
  | some (.get a b c d), .get a' b' c' d' => decide (a = a') && (decide (b = b') && (decide (c = c') && decide (d = d')))
  | _, _ => false
theorem fcB_ok {x : Option PySem.W.CFound} {y : PySem.W.CFound} (h : fcB x y = true) : x = some y := by
  cases x with
  | none => cases y <;> cases h
  | some x =>
    cases x with
    | val u => cases y with
      | val v =>
        have e : u = v := of_decide_eq_true h
        rw [e]
      | get => cases h
    | get a b c d => cases y with
      | val v => cases h
      | get a' b' c' d' =>
        obtain ⟨h1, h⟩ := Bool.and_eq_true_iff.mp h
        obtain ⟨h2, h⟩ := Bool.and_eq_true_iff.mp h
        obtain ⟨h3, h4⟩ := Bool.and_eq_true_iff.mp h
        have e1 : a = a' := of_decide_eq_true h1
        have e2 : b = b' := of_decide_eq_true h2
        have e3 : c = c' := of_decide_eq_true h3
        have e4 : d = d' := of_decide_eq_true h4
        rw [e1, e2, e3, e4]
end AHd

end
namespace AT
open PySem L2
def top (i : Nat) : Stmt := PySem.Challenge.pw_anytune_k15_names_of_holes.main.body.getD i (.Pass ⟨0, 0, 0, 0⟩)
abbrev s_NoMoment___init__ : Stmt := inClass (top 2) 0
theorem sc_NoMoment___init__ : FnScope ["self", "top", "bottom"] ["self", "top", "bottom"] (defScope s_NoMoment___init__) := ⟨rfl, rfl, rfl, by decide +kernel, rfl, by decide +kernel, by decide +kernel⟩
abbrev s_NoName___init__ : Stmt := inClass (top 6) 0
theorem sc_NoName___init__ : FnScope ["self", "name"] ["self", "name"] (defScope s_NoName___init__) := ⟨rfl, rfl, rfl, by decide +kernel, rfl, by decide +kernel, by decide +kernel⟩
abbrev s_common : Stmt := top 15
theorem sc_common : FnScope ["a", "b"] ["a", "b"] (defScope s_common) := ⟨rfl, rfl, rfl, by decide +kernel, rfl, by decide +kernel, by decide +kernel⟩
abbrev s_Moment___init__ : Stmt := inClass (top 17) 0
theorem sc_Moment___init__ : FnScope ["self", "top", "bottom", "part"] ["self", "top", "bottom"] (defScope s_Moment___init__) := ⟨rfl, rfl, rfl, by decide +kernel, rfl, by decide +kernel, by decide +kernel⟩
abbrev s_as_moment : Stmt := top 18
theorem sc_as_moment : FnScope ["value"] ["value"] (defScope s_as_moment) := ⟨rfl, rfl, rfl, by decide +kernel, rfl, by decide +kernel, by decide +kernel⟩
abbrev s_children : Stmt := top 48
theorem sc_children : FnScope ["tree"] ["tree"] (defScope s_children) := ⟨rfl, rfl, rfl, by decide +kernel, rfl, by decide +kernel, by decide +kernel⟩
abbrev s_names_in : Stmt := top 49
theorem sc_names_in : FnScope ["tree", "cell", "route", "out", "child"] ["tree"] (defScope s_names_in) := ⟨rfl, rfl, rfl, by decide +kernel, rfl, by decide +kernel, by decide +kernel⟩
abbrev s_shift_tree : Stmt := top 57
theorem sc_shift_tree : FnScope ["tree", "time"] ["tree", "time"] (defScope s_shift_tree) := ⟨rfl, rfl, rfl, by decide +kernel, rfl, by decide +kernel, by decide +kernel⟩
abbrev s_Piece___init__ : Stmt := inClass (top 76) 0
theorem sc_Piece___init__ : FnScope ["self", "tree"] ["self", "tree"] (defScope s_Piece___init__) := ⟨rfl, rfl, rfl, by decide +kernel, rfl, by decide +kernel, by decide +kernel⟩
abbrev s_Piece_named : Stmt := inClass (top 76) 1
theorem sc_Piece_named : FnScope ["name"] ["name"] (defScope s_Piece_named) := ⟨rfl, rfl, rfl, by decide +kernel, rfl, by decide +kernel, by decide +kernel⟩
abbrev s_Piece_silence : Stmt := inClass (top 76) 2
theorem sc_Piece_silence : FnScope [] [] (defScope s_Piece_silence) := ⟨rfl, rfl, rfl, by decide +kernel, rfl, by decide +kernel, by decide +kernel⟩
abbrev s_Piece_holes : Stmt := inClass (top 76) 3
theorem sc_Piece_holes : FnScope ["self", "name", "one"] ["self"] (defScope s_Piece_holes) := ⟨rfl, rfl, rfl, by decide +kernel, rfl, by decide +kernel, by decide +kernel⟩
abbrev s_Piece___or__ : Stmt := inClass (top 76) 4
theorem sc_Piece___or__ : FnScope ["self", "other"] ["self", "other"] (defScope s_Piece___or__) := ⟨rfl, rfl, rfl, by decide +kernel, rfl, by decide +kernel, by decide +kernel⟩
abbrev s_Piece___sub__ : Stmt := inClass (top 76) 6
theorem sc_Piece___sub__ : FnScope ["self", "other"] ["self", "other"] (defScope s_Piece___sub__) := ⟨rfl, rfl, rfl, by decide +kernel, rfl, by decide +kernel, by decide +kernel⟩
abbrev s_Piece___add__ : Stmt := inClass (top 76) 8
theorem sc_Piece___add__ : FnScope ["self", "other"] ["self", "other"] (defScope s_Piece___add__) := ⟨rfl, rfl, rfl, by decide +kernel, rfl, by decide +kernel, by decide +kernel⟩
abbrev s_Piece___radd__ : Stmt := inClass (top 76) 9
theorem sc_Piece___radd__ : FnScope ["self", "other"] ["self", "other"] (defScope s_Piece___radd__) := ⟨rfl, rfl, rfl, by decide +kernel, rfl, by decide +kernel, by decide +kernel⟩
abbrev s_Piece___lshift__ : Stmt := inClass (top 76) 10
theorem sc_Piece___lshift__ : FnScope ["self", "other"] ["self", "other"] (defScope s_Piece___lshift__) := ⟨rfl, rfl, rfl, by decide +kernel, rfl, by decide +kernel, by decide +kernel⟩
abbrev s_Piece___neg__ : Stmt := inClass (top 76) 15
theorem sc_Piece___neg__ : FnScope ["self"] ["self"] (defScope s_Piece___neg__) := ⟨rfl, rfl, rfl, by decide +kernel, rfl, by decide +kernel, by decide +kernel⟩
abbrev s_Piece_only : Stmt := inClass (top 76) 16
theorem sc_Piece_only : FnScope ["self", "begin", "end", "rounds"] ["self", "begin", "end", "rounds"] (defScope s_Piece_only) := ⟨rfl, rfl, rfl, by decide +kernel, rfl, by decide +kernel, by decide +kernel⟩
abbrev s_Piece_every : Stmt := inClass (top 76) 17
theorem sc_Piece_every : FnScope ["self", "step", "other", "first"] ["self", "step", "other", "first"] (defScope s_Piece_every) := ⟨rfl, rfl, rfl, by decide +kernel, rfl, by decide +kernel, by decide +kernel⟩
abbrev s_Piece_nth : Stmt := inClass (top 76) 18
theorem sc_Piece_nth : FnScope ["self", "index", "step"] ["self", "index", "step"] (defScope s_Piece_nth) := ⟨rfl, rfl, rfl, by decide +kernel, rfl, by decide +kernel, by decide +kernel⟩
abbrev s_good_name : Stmt := top 77
theorem sc_good_name : FnScope ["name", "one"] ["name"] (defScope s_good_name) := ⟨rfl, rfl, rfl, by decide +kernel, rfl, by decide +kernel, by decide +kernel⟩
abbrev s_turns : Stmt := top 78
theorem sc_turns : FnScope ["pieces", "piece"] ["pieces"] (defScope s_turns) := ⟨rfl, rfl, rfl, by decide +kernel, rfl, by decide +kernel, by decide +kernel⟩
abbrev s__law_cell : Stmt := top 80
theorem sc__law_cell : FnScope ["_law_script", "_law_k"] ["_law_script", "_law_k"] (defScope s__law_cell) := ⟨rfl, rfl, rfl, by decide +kernel, rfl, by decide +kernel, by decide +kernel⟩
abbrev s__law_row : Stmt := top 81
theorem sc__law_row : FnScope ["_law_cell_here", "_law_sizes", "_law_out", "_law_size", "_law_seed", "_law_k", "_law_mixed"] ["_law_cell_here", "_law_sizes"] (defScope s__law_row) := ⟨rfl, rfl, rfl, by decide +kernel, rfl, by decide +kernel, by decide +kernel⟩
abbrev s__law_sign : Stmt := top 82
theorem sc__law_sign : FnScope ["_law_k", "_law_signs"] ["_law_k"] (defScope s__law_sign) := ⟨rfl, rfl, rfl, by decide +kernel, rfl, by decide +kernel, by decide +kernel⟩
abbrev s__law_spoilt : Stmt := top 83
theorem sc__law_spoilt : FnScope ["_law_text", "_law_kind", "_law_place", "_law_k", "_law_at"] ["_law_text", "_law_kind", "_law_place", "_law_k"] (defScope s__law_spoilt) := ⟨rfl, rfl, rfl, by decide +kernel, rfl, by decide +kernel, by decide +kernel⟩
abbrev s__law_name : Stmt := top 84
theorem sc__law_name : FnScope ["_law_row_here", "_law_at", "_law_letters", "_law_name_here", "_law_k"] ["_law_row_here", "_law_at"] (defScope s__law_name) := ⟨rfl, rfl, rfl, by decide +kernel, rfl, by decide +kernel, by decide +kernel⟩
abbrev s__law_is_name : Stmt := top 85
theorem sc__law_is_name : FnScope ["_law_text", "_law_one"] ["_law_text"] (defScope s__law_is_name) := ⟨rfl, rfl, rfl, by decide +kernel, rfl, by decide +kernel, by decide +kernel⟩
abbrev s__law_taken : Stmt := top 86
theorem sc__law_taken : FnScope ["_law_text", "_law_piece", "_law_refused", "e"] ["_law_text"] (defScope s__law_taken) := ⟨rfl, rfl, rfl, by decide +kernel, rfl, by decide +kernel, by decide +kernel⟩
abbrev s__law_unlike : Stmt := top 87
theorem sc__law_unlike : FnScope ["_law_names", "_law_out", "_law_name_here"] ["_law_names"] (defScope s__law_unlike) := ⟨rfl, rfl, rfl, by decide +kernel, rfl, by decide +kernel, by decide +kernel⟩
abbrev s_law : Stmt := top 88
theorem sc_law : FnScope ["_law_script", "_law_names", "_law_k", "_law_row_here", "_law_text", "_law_one", "_law_two", "_law_three", "_law_piece", "_law_due", "_law_told", "_law_kept"] ["_law_script"] (defScope s_law) := ⟨rfl, rfl, rfl, by decide +kernel, rfl, by decide +kernel, by decide +kernel⟩
structure Tx (K : PySem.W.Frag) (mg : Str → Option Value) where
  PR : Params
  a_NoMoment___init__ : Addr
  d_NoMoment___init__ : FuncData
  F_NoMoment___init__ : Fun K "__init__" "NoMoment.__init__" s_NoMoment___init__ a_NoMoment___init__ d_NoMoment___init__
  a_NoName___init__ : Addr
  d_NoName___init__ : FuncData
  F_NoName___init__ : Fun K "__init__" "NoName.__init__" s_NoName___init__ a_NoName___init__ d_NoName___init__
  a_common : Addr
  d_common : FuncData
  F_common : Fun K "common" "common" s_common a_common d_common
  g_common : mg "common" = some (.ref a_common)
  a_Moment___init__ : Addr
  d_Moment___init__ : FuncData
  F_Moment___init__ : FunD K "__init__" "Moment.__init__" (defArgs s_Moment___init__) (defBody s_Moment___init__) (defScope s_Moment___init__) [.int 1] [] a_Moment___init__ d_Moment___init__
  a_as_moment : Addr
  d_as_moment : FuncData
  F_as_moment : Fun K "as_moment" "as_moment" s_as_moment a_as_moment d_as_moment
  g_as_moment : mg "as_moment" = some (.ref a_as_moment)
  a_children : Addr
  d_children : FuncData
  F_children : Fun K "children" "children" s_children a_children d_children
  g_children : mg "children" = some (.ref a_children)
  a_names_in : Addr
  d_names_in : FuncData
  F_names_in : Fun K "names_in" "names_in" s_names_in a_names_in d_names_in
  g_names_in : mg "names_in" = some (.ref a_names_in)
  a_shift_tree : Addr
  d_shift_tree : FuncData
  F_shift_tree : Fun K "shift_tree" "shift_tree" s_shift_tree a_shift_tree d_shift_tree
  g_shift_tree : mg "shift_tree" = some (.ref a_shift_tree)
  a_Piece___init__ : Addr
  d_Piece___init__ : FuncData
  F_Piece___init__ : Fun K "__init__" "Piece.__init__" s_Piece___init__ a_Piece___init__ d_Piece___init__
  a_Piece_named : Addr
  d_Piece_named : FuncData
  F_Piece_named : Fun K "named" "Piece.named" s_Piece_named a_Piece_named d_Piece_named
  a_Piece_silence : Addr
  d_Piece_silence : FuncData
  F_Piece_silence : Fun K "silence" "Piece.silence" s_Piece_silence a_Piece_silence d_Piece_silence
  a_Piece_holes : Addr
  d_Piece_holes : FuncData
  F_Piece_holes : Fun K "holes" "Piece.holes" s_Piece_holes a_Piece_holes d_Piece_holes
  a_Piece___or__ : Addr
  d_Piece___or__ : FuncData
  F_Piece___or__ : Fun K "__or__" "Piece.__or__" s_Piece___or__ a_Piece___or__ d_Piece___or__
  a_Piece___sub__ : Addr
  d_Piece___sub__ : FuncData
  F_Piece___sub__ : Fun K "__sub__" "Piece.__sub__" s_Piece___sub__ a_Piece___sub__ d_Piece___sub__
  a_Piece___add__ : Addr
  d_Piece___add__ : FuncData
  F_Piece___add__ : Fun K "__add__" "Piece.__add__" s_Piece___add__ a_Piece___add__ d_Piece___add__
  a_Piece___radd__ : Addr
  d_Piece___radd__ : FuncData
  F_Piece___radd__ : Fun K "__radd__" "Piece.__radd__" s_Piece___radd__ a_Piece___radd__ d_Piece___radd__
  a_Piece___lshift__ : Addr
  d_Piece___lshift__ : FuncData
  F_Piece___lshift__ : Fun K "__lshift__" "Piece.__lshift__" s_Piece___lshift__ a_Piece___lshift__ d_Piece___lshift__
  a_Piece___neg__ : Addr
  d_Piece___neg__ : FuncData
  F_Piece___neg__ : Fun K "__neg__" "Piece.__neg__" s_Piece___neg__ a_Piece___neg__ d_Piece___neg__
  a_Piece_only : Addr
  d_Piece_only : FuncData
  F_Piece_only : FunD K "only" "Piece.only" (defArgs s_Piece_only) (defBody s_Piece_only) (defScope s_Piece_only) [] [("rounds", .int 1)] a_Piece_only d_Piece_only
  a_Piece_every : Addr
  d_Piece_every : FuncData
  F_Piece_every : FunD K "every" "Piece.every" (defArgs s_Piece_every) (defBody s_Piece_every) (defScope s_Piece_every) [] [("first", .int 0)] a_Piece_every d_Piece_every
  a_Piece_nth : Addr
  d_Piece_nth : FuncData
  F_Piece_nth : Fun K "nth" "Piece.nth" s_Piece_nth a_Piece_nth d_Piece_nth
  a_good_name : Addr
  d_good_name : FuncData
  F_good_name : Fun K "good_name" "good_name" s_good_name a_good_name d_good_name
  g_good_name : mg "good_name" = some (.ref a_good_name)
  a_turns : Addr
  d_turns : FuncData
  F_turns : Fun K "turns" "turns" s_turns a_turns d_turns
  g_turns : mg "turns" = some (.ref a_turns)
  a__law_cell : Addr
  d__law_cell : FuncData
  F__law_cell : Fun K "_law_cell" "_law_cell" s__law_cell a__law_cell d__law_cell
  g__law_cell : mg "_law_cell" = some (.ref a__law_cell)
  a__law_row : Addr
  d__law_row : FuncData
  F__law_row : Fun K "_law_row" "_law_row" s__law_row a__law_row d__law_row
  g__law_row : mg "_law_row" = some (.ref a__law_row)
  a__law_sign : Addr
  d__law_sign : FuncData
  F__law_sign : Fun K "_law_sign" "_law_sign" s__law_sign a__law_sign d__law_sign
  g__law_sign : mg "_law_sign" = some (.ref a__law_sign)
  a__law_spoilt : Addr
  d__law_spoilt : FuncData
  F__law_spoilt : Fun K "_law_spoilt" "_law_spoilt" s__law_spoilt a__law_spoilt d__law_spoilt
  g__law_spoilt : mg "_law_spoilt" = some (.ref a__law_spoilt)
  a__law_name : Addr
  d__law_name : FuncData
  F__law_name : Fun K "_law_name" "_law_name" s__law_name a__law_name d__law_name
  g__law_name : mg "_law_name" = some (.ref a__law_name)
  a__law_is_name : Addr
  d__law_is_name : FuncData
  F__law_is_name : Fun K "_law_is_name" "_law_is_name" s__law_is_name a__law_is_name d__law_is_name
  g__law_is_name : mg "_law_is_name" = some (.ref a__law_is_name)
  a__law_taken : Addr
  d__law_taken : FuncData
  F__law_taken : Fun K "_law_taken" "_law_taken" s__law_taken a__law_taken d__law_taken
  g__law_taken : mg "_law_taken" = some (.ref a__law_taken)
  a__law_unlike : Addr
  d__law_unlike : FuncData
  F__law_unlike : Fun K "_law_unlike" "_law_unlike" s__law_unlike a__law_unlike d__law_unlike
  g__law_unlike : mg "_law_unlike" = some (.ref a__law_unlike)
  a_law : Addr
  d_law : FuncData
  F_law : Fun K "law" "law" s_law a_law d_law
  g_law : mg "law" = some (.ref a_law)
  C_AnytuneError : Addr
  g_AnytuneError : mg "AnytuneError" = some (.ref C_AnytuneError)
  rd_AnytuneError : ClX.CRead K C_AnytuneError (.type "type")
  in_AnytuneError : PySem.W.findCls K (.ref C_AnytuneError) (.type "type") "__init__" = some (.val (.builtin "ValueError.__init__"))
  C_NoMoment : Addr
  g_NoMoment : mg "NoMoment" = some (.ref C_NoMoment)
  ox_NoMoment : OexC K C_NoMoment
  xf_NoMoment : XfC K C_NoMoment
  em_NoMoment : PySem.W.exmOne K (.ref C_NoMoment) (.ref C_NoMoment) = some true
  na_NoMoment_top : PySem.W.findIn K (.ref C_NoMoment) "top" = some none
  na_NoMoment_bottom : PySem.W.findIn K (.ref C_NoMoment) "bottom" = some none
  C_NoName : Addr
  g_NoName : mg "NoName" = some (.ref C_NoName)
  ox_NoName : OexC K C_NoName
  xf_NoName : XfC K C_NoName
  em_NoName : PySem.W.exmOne K (.ref C_NoName) (.ref C_NoName) = some true
  na_NoName_name : PySem.W.findIn K (.ref C_NoName) "name" = some none
  C_Moment : Addr
  g_Moment : mg "Moment" = some (.ref C_Moment)
  o_Moment : OwnC K C_Moment
  k1_Moment : PySem.W.isClsIn K C_Moment = true
  k2_Moment : PySem.W.typeIn K (.ref C_Moment) = some (.type "type")
  k3_Moment : PySem.W.keepIn K (.ref C_Moment) = true
  mk_Moment : PySem.W.makesIn K C_Moment = true
  na_Moment_top : NoAttr K C_Moment "top"
  na_Moment_bottom : NoAttr K C_Moment "bottom"
  z_Moment_int : PySem.W.subIn K (.type "int") (.ref C_Moment) = some false
  z_Moment_str : PySem.W.subIn K (.type "str") (.ref C_Moment) = some false
  z_Moment_list : PySem.W.subIn K (.type "list") (.ref C_Moment) = some false
  z_Moment_tuple : PySem.W.subIn K (.type "tuple") (.ref C_Moment) = some false
  z_Moment_NoneType : PySem.W.subIn K (.type "NoneType") (.ref C_Moment) = some false
  z_Moment_bool : PySem.W.subIn K (.type "bool") (.ref C_Moment) = some false
  ne_Moment : PySem.W.findIn K (.ref C_Moment) "__ne__" = some (some (.builtin "object.__ne__"))
  C_Piece : Addr
  g_Piece : mg "Piece" = some (.ref C_Piece)
  o_Piece : OwnC K C_Piece
  k1_Piece : PySem.W.isClsIn K C_Piece = true
  k2_Piece : PySem.W.typeIn K (.ref C_Piece) = some (.type "type")
  k3_Piece : PySem.W.keepIn K (.ref C_Piece) = true
  mk_Piece : PySem.W.makesIn K C_Piece = true
  na_Piece_tree : NoAttr K C_Piece "tree"
  z_Piece_int : PySem.W.subIn K (.type "int") (.ref C_Piece) = some false
  z_Piece_str : PySem.W.subIn K (.type "str") (.ref C_Piece) = some false
  z_Piece_list : PySem.W.subIn K (.type "list") (.ref C_Piece) = some false
  z_Piece_tuple : PySem.W.subIn K (.type "tuple") (.ref C_Piece) = some false
  z_Piece_NoneType : PySem.W.subIn K (.type "NoneType") (.ref C_Piece) = some false
  z_Piece_bool : PySem.W.subIn K (.type "bool") (.ref C_Piece) = some false
  ne_Piece : PySem.W.findIn K (.ref C_Piece) "__ne__" = some (some (.builtin "object.__ne__"))
  io_Piece_add : IntOp K C_Piece .Add a_Piece___add__ a_Piece___radd__
  io_Piece_lshift : IntOp K C_Piece .LShift a_Piece___lshift__ a_Piece___lshift__
  m_NoMoment___init__ : OwnM K C_NoMoment a_NoMoment___init__ "__init__"
  m_NoName___init__ : OwnM K C_NoName a_NoName___init__ "__init__"
  m_Moment___init__ : OwnM K C_Moment a_Moment___init__ "__init__"
  m_Piece___init__ : OwnM K C_Piece a_Piece___init__ "__init__"
  sm_Piece_named : SMet K C_Piece "named" a_Piece_named
  sm_Piece_silence : SMet K C_Piece "silence" a_Piece_silence
  pr_Piece_holes : ∃ p, PropOf K C_Piece "holes" p a_Piece_holes
  m_Piece___or__ : OwnM K C_Piece a_Piece___or__ "__or__"
  m_Piece___sub__ : OwnM K C_Piece a_Piece___sub__ "__sub__"
  m_Piece___add__ : OwnM K C_Piece a_Piece___add__ "__add__"
  m_Piece___radd__ : OwnM K C_Piece a_Piece___radd__ "__radd__"
  m_Piece___lshift__ : OwnM K C_Piece a_Piece___lshift__ "__lshift__"
  m_Piece___neg__ : OwnM K C_Piece a_Piece___neg__ "__neg__"
  m_Piece_only : OwnM K C_Piece a_Piece_only "only"
  m_Piece_every : OwnM K C_Piece a_Piece_every "every"
  m_Piece_nth : OwnM K C_Piece a_Piece_nth "nth"
  u_LETTERS : Value
  g_LETTERS : mg "LETTERS" = some u_LETTERS
  v_LETTERS : RelV (.str (SX.S [97, 98, 99, 100, 101, 102, 103, 104, 105, 106, 107, 108, 109, 110, 111, 112, 113, 114, 115, 116, 117, 118, 119, 120, 121, 122])) u_LETTERS
  D_TABLES : Addr
  g_TABLES : mg "TABLES" = some (.ref D_TABLES)
  kd_TABLES : ∀ w : World, PR = w.params → ∃ es n, KDict K w D_TABLES es n
  dp_TABLES_0 : ∃ u, PySem.W.nsIn K D_TABLES "|" = some (some u) ∧ RelV (.str (SX.S [48, 49, 49, 49])) u
  dp_TABLES_1 : ∃ u, PySem.W.nsIn K D_TABLES "&" = some (some u) ∧ RelV (.str (SX.S [48, 48, 48, 49])) u
  dp_TABLES_2 : ∃ u, PySem.W.nsIn K D_TABLES "-" = some (some u) ∧ RelV (.str (SX.S [48, 49, 48, 48])) u
  dp_TABLES_3 : ∃ u, PySem.W.nsIn K D_TABLES "^" = some (some u) ∧ RelV (.str (SX.S [48, 49, 49, 48])) u
  da_TABLES_0 : PySem.W.nsIn K D_TABLES "hole" = some none
  da_TABLES_1 : PySem.W.nsIn K D_TABLES "silence" = some none
  da_TABLES_2 : PySem.W.nsIn K D_TABLES "up" = some none
  da_TABLES_3 : PySem.W.nsIn K D_TABLES "shift" = some none
  da_TABLES_4 : PySem.W.nsIn K D_TABLES "pace" = some none
  da_TABLES_5 : PySem.W.nsIn K D_TABLES "mirror" = some none
  da_TABLES_6 : PySem.W.nsIn K D_TABLES "only" = some none
  da_TABLES_7 : PySem.W.nsIn K D_TABLES "every" = some none
  da_TABLES_8 : PySem.W.nsIn K D_TABLES "nth" = some none
  da_TABLES_9 : PySem.W.nsIn K D_TABLES "turns" = some none
  da_TABLES_10 : PySem.W.nsIn K D_TABLES "cells" = some none
  n_abs : mg "abs" = none
  n_isinstance : mg "isinstance" = none
  n_int : mg "int" = none
  n_list : mg "list" = none
  n_staticmethod : mg "staticmethod" = none
  n_property : mg "property" = none
  n_sorted : mg "sorted" = none
  n_str : mg "str" = none
  n_len : mg "len" = none
  n_tuple : mg "tuple" = none
  n_range : mg "range" = none
section
variable {K : PySem.W.Frag} {mg : Str → Option Value}
theorem Tx.b_NoMoment___init__ (T : Tx K mg) : Binds K T.d_NoMoment___init__ ["self", "top", "bottom"] [] := T.F_NoMoment___init__.binds (ps := ["self", "top", "bottom"]) fun _ _ _ _ _ _ us hl => match us, hl with | [_, _, _], _ => rfl
theorem Tx.b_NoName___init__ (T : Tx K mg) : Binds K T.d_NoName___init__ ["self", "name"] [] := T.F_NoName___init__.binds (ps := ["self", "name"]) fun _ _ _ _ _ _ us hl => match us, hl with | [_, _], _ => rfl
theorem Tx.b_common (T : Tx K mg) : Binds K T.d_common ["a", "b"] [] := T.F_common.binds (ps := ["a", "b"]) fun _ _ _ _ _ _ us hl => match us, hl with | [_, _], _ => rfl
theorem Tx.M_Moment (T : Tx K mg) : Mk K T.C_Moment T.a_Moment___init__ := ⟨T.mk_Moment, T.m_Moment___init__.at_, T.m_Moment___init__.fn, T.k3_Moment⟩
theorem Tx.mt_Moment___init__ (T : Tx K mg) : Meth K T.C_Moment "__init__" T.a_Moment___init__ := ⟨T.m_Moment___init__.at_, T.m_Moment___init__.fn, T.F_Moment___init__.kp⟩
theorem Tx.b_as_moment (T : Tx K mg) : Binds K T.d_as_moment ["value"] [] := T.F_as_moment.binds (ps := ["value"]) fun _ _ _ _ _ _ us hl => match us, hl with | [_], _ => rfl
theorem Tx.b_children (T : Tx K mg) : Binds K T.d_children ["tree"] [] := T.F_children.binds (ps := ["tree"]) fun _ _ _ _ _ _ us hl => match us, hl with | [_], _ => rfl
theorem Tx.b_names_in (T : Tx K mg) : Binds K T.d_names_in ["tree"] [] := T.F_names_in.binds (ps := ["tree"]) fun _ _ _ _ _ _ us hl => match us, hl with | [_], _ => rfl
theorem Tx.b_shift_tree (T : Tx K mg) : Binds K T.d_shift_tree ["tree", "time"] [] := T.F_shift_tree.binds (ps := ["tree", "time"]) fun _ _ _ _ _ _ us hl => match us, hl with | [_, _], _ => rfl
theorem Tx.b_Piece___init__ (T : Tx K mg) : Binds K T.d_Piece___init__ ["self", "tree"] [] := T.F_Piece___init__.binds (ps := ["self", "tree"]) fun _ _ _ _ _ _ us hl => match us, hl with | [_, _], _ => rfl
theorem Tx.M_Piece (T : Tx K mg) : Mk K T.C_Piece T.a_Piece___init__ := ⟨T.mk_Piece, T.m_Piece___init__.at_, T.m_Piece___init__.fn, T.k3_Piece⟩
theorem Tx.mt_Piece___init__ (T : Tx K mg) : Meth K T.C_Piece "__init__" T.a_Piece___init__ := ⟨T.m_Piece___init__.at_, T.m_Piece___init__.fn, T.F_Piece___init__.kp⟩
theorem Tx.b_Piece_named (T : Tx K mg) : Binds K T.d_Piece_named ["name"] [] := T.F_Piece_named.binds (ps := ["name"]) fun _ _ _ _ _ _ us hl => match us, hl with | [_], _ => rfl
theorem Tx.b_Piece_silence (T : Tx K mg) : Binds K T.d_Piece_silence [] [] := T.F_Piece_silence.binds (ps := []) fun _ _ _ _ _ _ us hl => match us, hl with | [], _ => rfl
theorem Tx.b_Piece_holes (T : Tx K mg) : Binds K T.d_Piece_holes ["self"] [] := T.F_Piece_holes.binds (ps := ["self"]) fun _ _ _ _ _ _ us hl => match us, hl with | [_], _ => rfl
theorem Tx.b_Piece___or__ (T : Tx K mg) : Binds K T.d_Piece___or__ ["self", "other"] [] := T.F_Piece___or__.binds (ps := ["self", "other"]) fun _ _ _ _ _ _ us hl => match us, hl with | [_, _], _ => rfl
theorem Tx.mt_Piece___or__ (T : Tx K mg) : Meth K T.C_Piece "__or__" T.a_Piece___or__ := ⟨T.m_Piece___or__.at_, T.m_Piece___or__.fn, T.F_Piece___or__.kp⟩
theorem Tx.b_Piece___sub__ (T : Tx K mg) : Binds K T.d_Piece___sub__ ["self", "other"] [] := T.F_Piece___sub__.binds (ps := ["self", "other"]) fun _ _ _ _ _ _ us hl => match us, hl with | [_, _], _ => rfl
theorem Tx.mt_Piece___sub__ (T : Tx K mg) : Meth K T.C_Piece "__sub__" T.a_Piece___sub__ := ⟨T.m_Piece___sub__.at_, T.m_Piece___sub__.fn, T.F_Piece___sub__.kp⟩
theorem Tx.b_Piece___add__ (T : Tx K mg) : Binds K T.d_Piece___add__ ["self", "other"] [] := T.F_Piece___add__.binds (ps := ["self", "other"]) fun _ _ _ _ _ _ us hl => match us, hl with | [_, _], _ => rfl
theorem Tx.mt_Piece___add__ (T : Tx K mg) : Meth K T.C_Piece "__add__" T.a_Piece___add__ := ⟨T.m_Piece___add__.at_, T.m_Piece___add__.fn, T.F_Piece___add__.kp⟩
theorem Tx.b_Piece___radd__ (T : Tx K mg) : Binds K T.d_Piece___radd__ ["self", "other"] [] := T.F_Piece___radd__.binds (ps := ["self", "other"]) fun _ _ _ _ _ _ us hl => match us, hl with | [_, _], _ => rfl
theorem Tx.mt_Piece___radd__ (T : Tx K mg) : Meth K T.C_Piece "__radd__" T.a_Piece___radd__ := ⟨T.m_Piece___radd__.at_, T.m_Piece___radd__.fn, T.F_Piece___radd__.kp⟩
theorem Tx.b_Piece___lshift__ (T : Tx K mg) : Binds K T.d_Piece___lshift__ ["self", "other"] [] := T.F_Piece___lshift__.binds (ps := ["self", "other"]) fun _ _ _ _ _ _ us hl => match us, hl with | [_, _], _ => rfl
theorem Tx.mt_Piece___lshift__ (T : Tx K mg) : Meth K T.C_Piece "__lshift__" T.a_Piece___lshift__ := ⟨T.m_Piece___lshift__.at_, T.m_Piece___lshift__.fn, T.F_Piece___lshift__.kp⟩
theorem Tx.b_Piece___neg__ (T : Tx K mg) : Binds K T.d_Piece___neg__ ["self"] [] := T.F_Piece___neg__.binds (ps := ["self"]) fun _ _ _ _ _ _ us hl => match us, hl with | [_], _ => rfl
theorem Tx.mt_Piece___neg__ (T : Tx K mg) : Meth K T.C_Piece "__neg__" T.a_Piece___neg__ := ⟨T.m_Piece___neg__.at_, T.m_Piece___neg__.fn, T.F_Piece___neg__.kp⟩
theorem Tx.mt_Piece_only (T : Tx K mg) : Meth K T.C_Piece "only" T.a_Piece_only := ⟨T.m_Piece_only.at_, T.m_Piece_only.fn, T.F_Piece_only.kp⟩
theorem Tx.mt_Piece_every (T : Tx K mg) : Meth K T.C_Piece "every" T.a_Piece_every := ⟨T.m_Piece_every.at_, T.m_Piece_every.fn, T.F_Piece_every.kp⟩
theorem Tx.b_Piece_nth (T : Tx K mg) : Binds K T.d_Piece_nth ["self", "index", "step"] [] := T.F_Piece_nth.binds (ps := ["self", "index", "step"]) fun _ _ _ _ _ _ us hl => match us, hl with | [_, _, _], _ => rfl
theorem Tx.mt_Piece_nth (T : Tx K mg) : Meth K T.C_Piece "nth" T.a_Piece_nth := ⟨T.m_Piece_nth.at_, T.m_Piece_nth.fn, T.F_Piece_nth.kp⟩
theorem Tx.b_good_name (T : Tx K mg) : Binds K T.d_good_name ["name"] [] := T.F_good_name.binds (ps := ["name"]) fun _ _ _ _ _ _ us hl => match us, hl with | [_], _ => rfl
theorem Tx.b__law_cell (T : Tx K mg) : Binds K T.d__law_cell ["_law_script", "_law_k"] [] := T.F__law_cell.binds (ps := ["_law_script", "_law_k"]) fun _ _ _ _ _ _ us hl => match us, hl with | [_, _], _ => rfl
theorem Tx.b__law_row (T : Tx K mg) : Binds K T.d__law_row ["_law_cell_here", "_law_sizes"] [] := T.F__law_row.binds (ps := ["_law_cell_here", "_law_sizes"]) fun _ _ _ _ _ _ us hl => match us, hl with | [_, _], _ => rfl
theorem Tx.b__law_sign (T : Tx K mg) : Binds K T.d__law_sign ["_law_k"] [] := T.F__law_sign.binds (ps := ["_law_k"]) fun _ _ _ _ _ _ us hl => match us, hl with | [_], _ => rfl
theorem Tx.b__law_spoilt (T : Tx K mg) : Binds K T.d__law_spoilt ["_law_text", "_law_kind", "_law_place", "_law_k"] [] := T.F__law_spoilt.binds (ps := ["_law_text", "_law_kind", "_law_place", "_law_k"]) fun _ _ _ _ _ _ us hl => match us, hl with | [_, _, _, _], _ => rfl
theorem Tx.b__law_name (T : Tx K mg) : Binds K T.d__law_name ["_law_row_here", "_law_at"] [] := T.F__law_name.binds (ps := ["_law_row_here", "_law_at"]) fun _ _ _ _ _ _ us hl => match us, hl with | [_, _], _ => rfl
theorem Tx.b__law_is_name (T : Tx K mg) : Binds K T.d__law_is_name ["_law_text"] [] := T.F__law_is_name.binds (ps := ["_law_text"]) fun _ _ _ _ _ _ us hl => match us, hl with | [_], _ => rfl
theorem Tx.b__law_taken (T : Tx K mg) : Binds K T.d__law_taken ["_law_text"] [] := T.F__law_taken.binds (ps := ["_law_text"]) fun _ _ _ _ _ _ us hl => match us, hl with | [_], _ => rfl
theorem Tx.b__law_unlike (T : Tx K mg) : Binds K T.d__law_unlike ["_law_names"] [] := T.F__law_unlike.binds (ps := ["_law_names"]) fun _ _ _ _ _ _ us hl => match us, hl with | [_], _ => rfl
theorem Tx.b_law (T : Tx K mg) : Binds K T.d_law ["_law_script"] [] := T.F_law.binds (ps := ["_law_script"]) fun _ _ _ _ _ _ us hl => match us, hl with | [_], _ => rfl
end
end AT
open AT
local macro_rules | `(tactic| walk_at "vc1") => `(tactic| (with_reducible first
  | refine w_seq ?_ | refine w_if ?_ | refine w_set ?_ | refine w_par ?_ | refine w_drop ?_ | refine w_ret ?_ | refine w_retN ?_ | refine w_next ?_
  | refine w_c ?_ | refine w_test ?_ | refine w_B ?_ | refine w_op ?_ | refine w_un ?_ | refine w_chain ?_ | refine w_and ?_ | refine w_or ?_ | refine w_not ?_
  | refine w_andV ?_ | refine w_orV ?_ | refine w_notV ?_ | refine w_ifE ?_ | refine w_nil ?_ | refine w_cons ?_ | refine w_call ?_ | refine w_callS ?_ | refine w_cb ?_
  | refine w_fld ?_ | refine w_sfld ?_ | refine w_lst ?_ | refine w_tup ?_ | refine w_bm ?_
  | refine w_rI0 ?_ | refine w_rU ?_ | refine w_eqI ?_ | refine w_neI ?_ | refine w_bl ?_ | refine w_blV ?_ | refine w_abs ?_ | refine w_int ?_ | refine w_two ?_ | refine w_iList ?_ | refine w_iTup ?_ | refine w_iRng1 ?_ | refine w_gname ?_ | refine w_intInt ?_ | refine w_intBool ?_ | refine w_boolBool ?_ | refine w_for ?_ | refine w_makeS ?_ | refine w_xf ?_ | refine n_isN ?_ | refine n_notN ?_ | refine w_opS ?_ | refine w_lc ?_ | refine i_yes rfl ?_ | refine i_no rfl ?_))
local macro_rules | `(tactic| walk_at "vc") => `(tactic| (repeat (first | (walk_at "vc1") | (refine w_var (by rfl) ?_) | (refine w_aug (by rfl) ?_) | (refine w_pow (by decide) ?_) | (refine w_mod (by decide) ?_))))
namespace AT
open PySem PySem.Spec PyProof.Rows L2
section
variable {P : Program} {w : World} {K : PySem.W.Frag} {mg : Str → Option Value} {base : Heap}
/-- two ints, both below 2 ^ 8000: their greatest common divisor -/
def spGcd : Sp := fun vs H Q _ => ∃ a b : Int, vs = [.int a, .int b] ∧ Bn 8000 a ∧ Bn 8000 b ∧ Q (.int (Int.gcd a b)) H
theorem c_gcd {a b : Int} {H : Hp} {Q : VK} {E : XK} (ha : Bn 8000 a) (hb : Bn 8000 b) (h : Q (.int (Int.gcd a b)) H) : spGcd [.int a, .int b] H Q E := ⟨a, b, rfl, ha, hb, h⟩
theorem gcd_turn {a b a0 b0 : Int} (hb : 0 < b) (ha : 0 ≤ a) (g : Int.gcd a b = Int.gcd a0 b0) (z : Bn 8000 b) : 0 ≤ b ∧ 0 ≤ a - b * (a.fdiv b) ∧ Int.gcd b (a - b * (a.fdiv b)) = Int.gcd a0 b0 ∧ Bn 8000 b ∧ Bn 8000 (a - b * (a.fdiv b)) ∧ (a - b * (a.fdiv b)).toNat < b.toNat := by
  have e := rest_eq (a := a) hb
  have h1 := Int.emod_nonneg a (by omega : b ≠ 0)
  have h2 := Int.emod_lt_of_pos a hb
  refine ⟨by omega, by omega, (gcd_step hb).trans g, z, z.le (by omega), by omega⟩
theorem gcd_out {a b a0 b0 : Int} (hb : ¬ 0 < b) (hb0 : 0 ≤ b) (ha : 0 ≤ a) (g : Int.gcd a b = Int.gcd a0 b0) : a = (Int.gcd a0 b0 : Int) := by
  have : b = 0 := by omega
  subst this
  rw [← g, Int.gcd_zero_right]
  omega
theorem ok_common (T : Tx K mg) : FnOk P w K mg base CX0 1 T.a_common T.d_common ["a", "b"] spGcd := by
  refine T.F_common.ok sc_common (fun vs H Q E h => ?_) (fun cdv A outer s H vs Q E hr h => ?_)
  · obtain ⟨a, b, rfl, _⟩ := h
    rfl
  · obtain ⟨a, b, rfl, ha, hb, k⟩ := h
    refine ⟨_, ((pss_cons (ps_set (i := 0) sc_common.nd rfl (Or.inl rfl) (pe_callB call_absR (by rfl) T.n_abs boot_abs (pa_cons (pv 0) pa_nil)))
 (pss_cons (ps_set (i := 1) sc_common.nd rfl (Or.inl rfl) (pe_callB call_absR (by rfl) T.n_abs boot_abs (pa_cons (pv 1) pa_nil)))
 (pss_cons (ps_while PassesOwn.never (pt_cmpR op_gt (pv 1) pe_int (nomark _)) (pss_one (ps_par (i := 0) (j := 1) rfl sc_common.nd rfl rfl (by decide) rfl rfl (pa_cons (pv 1) (pa_cons (pe_op op_sub (pv 0) (pe_op op_mulW (pv 1) (pe_op op_fdivG (pv 0) (pv 1)))) pa_nil)) rfl)))
 (pss_one (ps_ret (pv 0))))))), ?_⟩
    walk_at "vc"
    refine w_while (fun σ H' => H' = H ∧ ∃ x y : Int, σ = [some (.int x), some (.int y)] ∧ 0 ≤ x ∧ 0 ≤ y ∧ Int.gcd x y = Int.gcd a b ∧ Bn 8000 x ∧ Bn 8000 y) (fun σ _ => match σ with | [_, some (.int y)] => y.toNat | _ => 0)
      ⟨rfl, _, _, rfl, by omega, by omega, rfl, ha.abs, hb.abs⟩ ?_
    rintro σ H' ⟨rfl, x, y, rfl, hx, hy, g, bx, bY⟩
    walk_at "vc"
    refine i_dec (fun hp => ?_) (fun hp => ?_)
    · refine w_wturn ?_
      walk_at "vc"
      refine w_rI ⟨by omega, bY.log' (by decide)⟩ ?_
      obtain ⟨t1, t2, t3, t4, t5, t6⟩ := gcd_turn hp hx g bY
      refine w_rI (wide_mul (a := 8000) (b := 8000) bY (bx.le (fdiv_abs hp hx)) (by decide) (by decide) (by decide)) ?_
      walk_at "vc"
      exact ⟨t6, rfl, _, _, rfl, t1, t2, t3, t4, t5⟩
    · walk_at "vc"
      rw [gcd_out hp hy hx g]
      exact k
end
end AT
namespace AT
open PySem PySem.Spec PyProof.Rows L2
/-- the attributes of a moment -/
def momF (q : Rat) : List (Str × V) := [("top", .int q.num), ("bottom", .int (q.den : Int))]
theorem momF_new (q : Rat) : putF "bottom" (.int (q.den : Int)) (putF "top" (.int q.num) []) = momF q := by
  show (if ("top" : Str) = "bottom" then _ else (("top" : Str), V.int q.num) :: putF "bottom" _ []) = _
  rw [if_neg (by decide +kernel)]
  rfl
theorem momF_top (q : Rat) : (momF q).lookup ("top" : Str) = some (.int q.num) := rfl
theorem momF_bottom (q : Rat) : (momF q).lookup ("bottom" : Str) = some (.int (q.den : Int)) := by
  rw [← momF_new, lookup_putF, if_pos rfl]
/-- v is a moment that is worth q -/
def Mo (C : Addr) (H : Hp) (v : V) (q : Rat) : Prop := ∃ a dx, v = .ref a ∧ H a = some (.ins C dx (momF q))
theorem Mo.up {C : Addr} {H H' : Hp} {v : V} {q : Rat} (e : Ext H H') (h : Mo C H v q) : Mo C H' v q := by
  obtain ⟨a, dx, rfl, z⟩ := h
  exact ⟨a, dx, rfl, e _ _ z⟩
/-- small enough to reckon with: both parts below 2 ^ n -/
structure Sm (n : Nat) (q : Rat) : Prop where
  num : Bn n q.num
  den : Bn n (q.den : Int)
theorem Sm.mono {m n : Nat} {q : Rat} (h : Sm m q) (l : m ≤ n) : Sm n q := ⟨h.num.mono l, h.den.mono l⟩
theorem sm_div {n : Nat} {t b : Int} (hb : b ≠ 0) (ht : Bn n t) (hb' : Bn n b) : Sm n (Rat.divInt t b) := ⟨ht.le (num_le hb), hb'.le (by rw [Int.natAbs_natCast]; exact den_le hb)⟩
section
variable {P : Program} {w : World} {K : PySem.W.Frag} {mg : Str → Option Value} {base : Heap}
/-- an error of two values -/
def spErr2 (C : Addr) (f g : Str) : Sp := fun vs H Q _ => ∃ (a : Addr) (x y : V), vs = [.ref a, x, y] ∧ H a = some (exo a C none) ∧
  ∀ d H', H d = none → H' a = some (exo a C (some d)) → H' d = some (exd d [(g, y), (f, x)]) → (∀ b o, H b = some o → b ≠ a → H' b = some o) → Q .non H'
theorem ok_NoMoment___init__ (T : Tx K mg) : FnOk P w K mg base CX0 1 T.a_NoMoment___init__ T.d_NoMoment___init__ ["self", "top", "bottom"] (spErr2 T.C_NoMoment "top" "bottom") := by
  refine T.F_NoMoment___init__.ok sc_NoMoment___init__ (fun vs H Q E h => ?_) (fun cdv A outer s H vs Q E hr h => ?_)
  · obtain ⟨a, x, y, rfl, _⟩ := h
    rfl
  · obtain ⟨a, x, y, rfl, ha, k⟩ := h
    refine ⟨_, ((pss_cons (ps_expr (pe_clsinit rfl T.g_AnytuneError T.rd_AnytuneError T.in_AnytuneError (pa_cons (pv 0) (pa_cons pe_str pa_nil))))
 (pss_cons (ps_ost (pv 0) (pv 1))
 (pss_one (ps_ost (pv 0) (pv 2)))))), ?_⟩
    refine ⟨_, rfl, a, T.C_NoMoment, _, rfl, by decide, T.ox_NoMoment, ha, ?_⟩
    refine ⟨_, rfl, _, rfl, a, T.C_NoMoment, rfl, T.ox_NoMoment, T.na_NoMoment_top, .inl ⟨ha, fun dx nd ne => ?_⟩⟩
    refine ⟨_, rfl, _, rfl, a, T.C_NoMoment, rfl, T.ox_NoMoment, T.na_NoMoment_bottom, .inr ⟨dx, _, upd_same, by rw [upd_ne ne, upd_same], (by show 1 ≤ 900; decide), ?_⟩⟩
    refine k dx _ nd (by rw [upd_ne (Ne.symm ne), upd_same]) upd_same fun b o e hb => ?_
    rw [upd_ne (ne_of_none e nd), upd_ne hb, upd_ne (ne_of_none e nd)]
    exact e
/-- Moment(top, bottom) on a new instance -/
def spMom (C CE : Addr) : Sp := fun vs H Q E => ∃ (x dx : Addr) (t b : Int), vs = [.ref x, .int t, .int b] ∧ H x = some (.ins C dx []) ∧ Bn 8000 t ∧ Bn 8000 b ∧
  (b = 0 → ∀ d H', H d = none → Ext H H' → H' d = some (.xd [("bottom", .int b), ("top", .int t)]) → E (.ref CE) (some d) H') ∧
  (b ≠ 0 → Q .non (upd H x (.ins C dx (momF (Rat.divInt t b)))))
theorem ok_Moment___init__ (T : Tx K mg) : FnOk P w K mg base (L2.CX P w) 3 T.a_Moment___init__ T.d_Moment___init__ ["self", "top", "bottom"] (spMom T.C_Moment T.C_NoMoment) := by
  refine T.F_Moment___init__.ok sc_Moment___init__ (fun vs H Q E h => ?_) (fun cdv A outer s H vs Q E hr h => ?_)
  · obtain ⟨x, dx, t, b, rfl, _⟩ := h
    rfl
  · obtain ⟨x, dx, t, b, rfl, hx, ht, hb, kE, kQ⟩ := h
    have G_common : FnOk P w K mg base CX0 1 T.a_common T.d_common ["a", "b"] spGcd := ok_common T
    have G_err : FnOk P w K mg base CX0 1 T.a_NoMoment___init__ T.d_NoMoment___init__ ["self", "top", "bottom"] (spErr2 T.C_NoMoment "top" "bottom") := ok_NoMoment___init__ T
    have hr_common : Room 1 _ := hr.mono (by decide : 1 ≤ 2)
    refine ⟨_, ((pss_cons (ps_if (pt_cmpR op_eq (pv 2) pe_int (nomark _)) (pss_one (ps_raise rfl (takes_of rfl rfl rfl rfl) (pmk_oex T.ox_NoMoment T.m_NoMoment___init__.at_ (beq_iff_eq.mp T.m_NoMoment___init__.fn) G_err hr T.b_NoMoment___init__ .nil pass0 rfl T.g_NoMoment (pa_cons (pv 1) (pa_cons (pv 2) pa_nil))))) pss_nil)
 (pss_cons (ps_set (i := 3) sc_Moment___init__.nd rfl (Or.inl rfl) (pe_call G_common hr_common rfl T.g_common T.F_common.kp T.b_common .nil pass0 (pa_cons (pv 1) (pa_cons (pv 2) pa_nil))))
 (pss_cons (ps_if (pt_cmpR op_lt (pv 2) pe_int (nomark _)) (pss_one (ps_set (i := 3) sc_Moment___init__.nd rfl (Or.inl rfl) (pe_un un_neg (pv 3)))) pss_nil)
 (pss_cons (ps_fld (pv 0) (pe_op op_fdivG (pv 1) (pv 3)) rfl)
 (pss_one (ps_fld (pv 0) (pe_op op_fdivG (pv 2) (pv 3)) rfl))))))), ?_⟩
    walk_at "vc"
    refine i_dec (fun h0 => ?_) (fun h0 => ?_)
    · refine ⟨_, rfl, _, rfl, (by decide : 2 ≤ 1000), fun a na => ⟨a, _, _, rfl, upd_same, fun d H' nd h1 h2 kp => ⟨rfl, d, _, h1, h2, Ext.fresh (Ext.new na) nd, ?_⟩⟩⟩
      have nd' : H d = none := Ext.fresh (Ext.new na) nd
      refine kE h0 d _ nd' (fun q o e => ?_) upd_same
      rw [upd_ne (ne_of_none e nd'), del_ne (ne_of_none e na)]
      exact kp q o (by rw [upd_ne (ne_of_none e na)]; exact e) (ne_of_none e na)
    · walk_at "vc"
      refine c_gcd ht hb ?_
      walk_at "vc"
      have hp := part_ne (t := t) h0
      have pb : Bn 8000 (part t b) := part_bn ht hb h0
      refine i_dec (fun hn => ?_) (fun hn => ?_)
      · walk_at "vc"
        have e : -(Int.gcd t b : Int) = part t b := by unfold part; rw [if_pos hn]
        rw [e]
        refine w_rI ⟨hp, pb.log' (by decide)⟩ ?_
        walk_at "vc"
        refine ⟨x, _, dx, [], rfl, hx, T.o_Moment.cl, T.na_Moment_top, by decide, ?_⟩
        walk_at "vc"
        refine w_rI ⟨hp, pb.log' (by decide)⟩ ?_
        walk_at "vc"
        refine ⟨x, _, dx, _, rfl, upd_same, T.o_Moment.cl, T.na_Moment_bottom, (by show 1 < 1000; decide), ?_⟩
        have z := kQ h0
        rw [num_eq h0, den_eq h0, momF_new, upd_upd]
        exact z
      · walk_at "vc"
        have e : (Int.gcd t b : Int) = part t b := by unfold part; rw [if_neg hn]
        rw [e]
        refine w_rI ⟨hp, pb.log' (by decide)⟩ ?_
        walk_at "vc"
        refine ⟨x, _, dx, [], rfl, hx, T.o_Moment.cl, T.na_Moment_top, by decide, ?_⟩
        walk_at "vc"
        refine w_rI ⟨hp, pb.log' (by decide)⟩ ?_
        walk_at "vc"
        refine ⟨x, _, dx, _, rfl, upd_same, T.o_Moment.cl, T.na_Moment_bottom, (by show 1 < 1000; decide), ?_⟩
        have z := kQ h0
        rw [num_eq h0, den_eq h0, momF_new, upd_upd]
        exact z
end
end AT
namespace AT
open PySem PySem.Spec PyProof.Rows L2
theorem map_at {α β : Type} {f : α → β} {l : List α} {i : Nat} {y : β} (h : (l.map f)[i]? = some y) : ∃ x, l[i]? = some x ∧ y = f x := by
  rw [List.getElem?_map] at h
  cases e : l[i]? with
  | none => rw [e] at h; cases h
  | some x => rw [e] at h; exact ⟨x, rfl, (Option.some.inj h).symm⟩
theorem at_map {α β : Type} {f : α → β} {l : List α} {i : Nat} {x : α} (h : l[i]? = some x) : (l.map f)[i]? = some (f x) := by
  rw [List.getElem?_map, h]
  rfl
section
variable {P : Program} {w : World} {K : PySem.W.Frag} {mg : Str → Option Value} {base : Heap}
/-- a cell of the script: some int -/
def spCell (K : PySem.W.Frag) : Sp := fun vs H Q _ => ∃ (a : Addr) (ns : List Int) (k : Int), vs = [.ref a, .int k] ∧ SqL K H a (ns.map V.int) ∧ 0 ≤ k ∧ ∀ c : Int, Q (.int c) H
theorem c_cell {a : Addr} {ns : List Int} {k : Int} {H : Hp} {Q : VK} {E : XK} (l : SqL K H a (ns.map V.int)) (hk : 0 ≤ k) (h : ∀ c : Int, Q (.int c) H) : spCell K [.ref a, .int k] H Q E := ⟨a, ns, k, rfl, l, hk, h⟩
theorem ok__law_cell (T : Tx K mg) : FnOk P w K mg base CX0 1 T.a__law_cell T.d__law_cell ["_law_script", "_law_k"] (spCell K) := by
  refine T.F__law_cell.ok sc__law_cell (fun vs H Q E h => ?_) (fun cdv A outer s H vs Q E hr h => ?_)
  · obtain ⟨a, ns, k, rfl, _⟩ := h
    rfl
  · obtain ⟨a, ns, k, rfl, l, hk, q⟩ := h
    refine ⟨_, ((pss_cons (ps_if (pt_cmpR op_lt (pv 1) (pe_callB call_lenR (by rfl) T.n_len PySem.boot_len (pa_cons (pv 0) pa_nil)) (nomark _)) (pss_one (ps_ret (pe_ix ix_list (pv 0) (pv 1) (fun _ _ => rfl)))) pss_nil)
 (pss_one (ps_ret pe_int)))), ?_⟩
    walk_at "vc"
    refine w_len l ?_
    walk_at "vc"
    refine i_dec (fun hp => ?_) (fun hp => ?_)
    · walk_at "vc"
      rw [List.length_map] at hp
      obtain ⟨j, rfl⟩ : ∃ j : Nat, k = (j : Int) := ⟨k.toNat, by omega⟩
      have hj : j < ns.length := by omega
      exact w_ixL l (atI_nat (at_map (List.getElem?_eq_getElem hj))) (q _)
    · walk_at "vc"
      exact q 0
theorem mw {i j : Int} (hi : Bn 64 i) (hj : Bn 8000 j) : CMulW i j := wide_mul (a := 64) (b := 8000) hi hj (by decide) (by decide) (by decide)
end
end AT
namespace AT
open PySem PySem.Spec PyProof.Rows L2
section
variable {P : Program} {w : World} {K : PySem.W.Frag} {mg : Str → Option Value} {base : Heap}
/-- numbers below their sizes -/
def RowOk (ss ns : List Int) : Prop := ns.length = ss.length ∧ ∀ (i : Nat) s, ss[i]? = some s → ∃ n, ns[i]? = some n ∧ 0 ≤ n ∧ n < s
theorem RowOk.nil : RowOk [] [] := ⟨rfl, fun i s h => by simp at h⟩
theorem RowOk.more {ss ns : List Int} {i : Nat} {s n : Int} (h : RowOk (ss.take i) ns) (e : ss[i]? = some s) (h0 : 0 ≤ n) (h1 : n < s) : RowOk (ss.take (i + 1)) (ns ++ [n]) := by
  have hi : i < ss.length := (List.getElem?_eq_some_iff.mp e).1
  have hl : ns.length = i := by rw [h.1, List.length_take]; omega
  refine ⟨by rw [List.length_append, hl, List.length_take]; simp; omega, fun j s' hj => ?_⟩
  have hj' : j < i + 1 := by
    have := (List.getElem?_eq_some_iff.mp hj).1
    rw [List.length_take] at this
    omega
  rw [List.getElem?_take, if_pos hj'] at hj
  by_cases hji : j = i
  · subst hji
    rw [e] at hj
    cases hj
    refine ⟨n, ?_, h0, h1⟩
    rw [List.getElem?_append_right (by omega), hl]
    simp
  · obtain ⟨m, h2, h3, h4⟩ := h.2 j s' (by rw [List.getElem?_take, if_pos (by omega)]; exact hj)
    exact ⟨m, by rw [List.getElem?_append_left (by omega)]; exact h2, h3, h4⟩
theorem RowOk.one {s : Int} {ns : List Int} (h : RowOk [s] ns) : ∃ a, ns = [a] ∧ 0 ≤ a ∧ a < s := by
  obtain ⟨h1, h2⟩ := h
  obtain ⟨a, ea, pa⟩ := h2 0 s rfl
  match ns, h1 with
  | [x], _ =>
    cases ea
    exact ⟨_, rfl, pa⟩
theorem RowOk.cons {s : Int} {ss ns : List Int} (h : RowOk (s :: ss) ns) : ∃ a r, ns = a :: r ∧ 0 ≤ a ∧ a < s ∧ RowOk ss r := by
  obtain ⟨h1, h2⟩ := h
  obtain ⟨a, ea, pa⟩ := h2 0 s rfl
  match ns, h1 with
  | x :: r, h1 =>
    cases ea
    refine ⟨_, r, rfl, pa.1, pa.2, by simpa using h1, fun i s' e => ?_⟩
    obtain ⟨n, e1, e2⟩ := h2 (i + 1) s' (by simpa using e)
    exact ⟨n, by simpa using e1, e2⟩
def spRow (K : PySem.W.Frag) : Sp := fun vs H Q _ => ∃ (c : Int) (l : Addr) (ss : List Int), vs = [.int c, .ref l] ∧ SqL K H l (ss.map V.int) ∧ ss.length ≤ 63 ∧ (∀ s ∈ ss, 0 < s ∧ s < 1073741824) ∧
  ∀ p ns, H p = none → RowOk ss ns → Q (.ref p) (upd H p (.lst (ns.map V.int)))
theorem c_row {c : Int} {l : Addr} {ss : List Int} {H : Hp} {Q : VK} {E : XK} (hl : SqL K H l (ss.map V.int)) (hz : ss.length ≤ 63) (hs : ∀ s ∈ ss, 0 < s ∧ s < 1073741824)
    (h : ∀ p ns, H p = none → RowOk ss ns → Q (.ref p) (upd H p (.lst (ns.map V.int)))) : spRow K [.int c, .ref l] H Q E := ⟨c, l, ss, rfl, hl, hz, hs, h⟩
theorem pow5 {x : Int} (h : x.natAbs < 2 ^ 64) : CPow x 5 := ⟨by decide, by decide, h⟩
theorem ok__law_row (T : Tx K mg) : FnOk P w K mg base CX0 1 T.a__law_row T.d__law_row ["_law_cell_here", "_law_sizes"] (spRow K) := by
  refine T.F__law_row.ok sc__law_row (fun vs H Q E h => ?_) (fun cdv A outer s H vs Q E hr h => ?_)
  · obtain ⟨c, l, ss, rfl, _⟩ := h
    rfl
  · obtain ⟨c, l, ss, rfl, hl, hz, hs, q⟩ := h
    refine ⟨_, ((pss_cons (ps_set (i := 2) sc__law_row.nd rfl (Or.inl rfl) (pe_lst pa_nil))
 (pss_cons (ps_if (pt_cmpR op_ge (pv 0) (pe_op op_pow pe_int pe_int) (nomark _)) (pss_cons (ps_for PassesOwn.never rfl (pi_list (pv 1)) (pg_name (i := 3) sc__law_row.nd rfl (Or.inl rfl)) (pss_cons (ps_expr (pe_bm PySem.F.plainAttrs_list PySem.F.slot_list_append PySem.F.type_list_append mt_append (pv 2) (pa_cons (pe_op op_mod (pe_callTy call_intR (by rfl) T.n_int boot_int (pa_cons (pv 0) pa_nil)) (pv 3)) pa_nil)))
 (pss_one (ps_set (i := 0) sc__law_row.nd rfl (Or.inl rfl) (pe_op op_fdivG (pv 0) (pv 3))))))
 (pss_one (ps_ret (pv 2)))) pss_nil)
 (pss_cons (ps_set (i := 4) sc__law_row.nd rfl (Or.inl rfl) (pe_op op_mod (pe_callTy call_intR (by rfl) T.n_int boot_int (pa_cons (pv 0) pa_nil)) pe_int))
 (pss_cons (ps_for PassesOwn.never rfl (pi_range1 rfl T.n_range (pa_cons (pe_callB call_lenR (by rfl) T.n_len PySem.boot_len (pa_cons (pv 1) pa_nil)) pa_nil)) (pg_name (i := 5) sc__law_row.nd rfl (Or.inl rfl)) (pss_cons (ps_set (i := 6) sc__law_row.nd rfl (Or.inl rfl) (pe_op op_add (pe_op op_mod (pe_callTy call_intR (by rfl) T.n_int boot_int (pa_cons (pe_op op_pow (pe_op op_add (pe_op op_add (pv 4) (pe_op op_mulW pe_int (pv 5))) pe_int) pe_int) pa_nil)) pe_int) (pv 5)))
 (pss_one (ps_expr (pe_bm PySem.F.plainAttrs_list PySem.F.slot_list_append PySem.F.type_list_append mt_append (pv 2) (pa_cons (pe_op op_mod (pe_callTy call_intR (by rfl) T.n_int boot_int (pa_cons (pe_op op_mod (pe_callTy call_intR (by rfl) T.n_int boot_int (pa_cons (pe_op op_mulW (pv 6) pe_int) pa_nil)) pe_int) pa_nil)) (pe_ix ix_list (pv 1) (pv 5) (fun _ _ => rfl))) pa_nil))))))
 (pss_one (ps_ret (pv 2)))))))), ?_⟩
    walk_at "vc"
    refine ⟨by decide, fun p np => ?_⟩
    have hl1 : ∀ o, SqL K (upd H p o) l (ss.map V.int) := fun o => Same.seq (fun b u e => by rw [upd_ne (ne_of_none e np)]; exact e) hl
    walk_at "vc"
    refine i_dec (fun hp => ?_) (fun hp => ?_)
    · walk_at "vc"
      refine ⟨l, rfl, ⟨_, hl1 _⟩, for_list (K := K) (a := l) (xs := ss.map V.int) (fun i σ H' => ∃ (z : Int) (ns : List Int) (v4 v5 v6 v7 : Option V), σ = [some (.int z), some (.ref l), some (.ref p), v4, v5, v6, v7] ∧ H' = upd H p (.lst (ns.map V.int)) ∧ RowOk (ss.take i) ns)
        ⟨c, [], none, none, none, none, rfl, rfl, RowOk.nil⟩ (fun i σ H' _ h => by obtain ⟨_, _, _, _, _, _, _, rfl, _⟩ := h; exact hl1 _) ?_ ?_⟩
      · rintro i y σ H' hi ⟨z, ns, v4, v5, v6, v7, rfl, rfl, r⟩
        obtain ⟨sz, hsz, rfl⟩ := map_at hi
        have hpos := hs sz (List.mem_of_getElem? hsz)
        walk_at "vc"
        refine ⟨.inl ⟨rfl, _, SqL.of upd_same⟩, ?_⟩
        walk_at "vc"
        refine w_rI hpos.1 ?_
        walk_at "vc"
        have hln : ns.length ≤ 63 := by
          have := r.1
          rw [List.length_take] at this
          omega
        refine w_app upd_same (by rw [List.length_map]; omega) ?_
        walk_at "vc"
        refine w_rI ⟨by omega, by have : Bn 30 sz := by (unfold Bn; omega)
                                  exact this.log' (by decide)⟩ ?_
        walk_at "vc"
        exact ⟨_, ns ++ [z % sz], _, _, _, _, rfl, by rw [upd_upd, List.map_append]; rfl, r.more hsz (Int.emod_nonneg _ (by omega)) (Int.emod_lt_of_pos _ hpos.1)⟩
      · rintro σ H' ⟨z, ns, v4, v5, v6, v7, rfl, rfl, r⟩
        walk_at "vc"
        rw [List.length_map, List.take_length] at r
        exact q p ns np r
    · walk_at "vc"
      refine w_len (hl1 _) ?_
      walk_at "vc"
      have e1 : 0 ≤ c % 2147483647 := Int.emod_nonneg _ (by decide)
      have e2 : c % 2147483647 < 2147483647 := Int.emod_lt_of_pos _ (by decide)
      generalize c % 2147483647 = sd at e1 e2
      refine ⟨_, rfl, by omega, by rw [List.length_map]; omega, for_range (lo := 0) (n := ((ss.map V.int).length : Int).toNat) (fun i σ H' => ∃ (ns : List Int) (v4 v6 v7 : Option V), σ = [some (.int c), some (.ref l), some (.ref p), v4, some (.int sd), v6, v7] ∧ H' = upd H p (.lst (ns.map V.int)) ∧ RowOk (ss.take i) ns)
        ⟨[], none, none, none, rfl, rfl, RowOk.nil⟩ ?_ ?_⟩
      · rintro i σ H' hi ⟨ns, v4, v6, v7, rfl, rfl, r⟩
        have hi' : i < ss.length := by simpa using hi
        have hsz := List.getElem?_eq_getElem hi'
        generalize ss[i] = sz at hsz
        have hpos := hs sz (List.mem_of_getElem? hsz)
        walk_at "vc"
        refine w_rI (mw (by unfold Bn; omega) (Bn.mono (m := 64) (by unfold Bn; omega) (by decide))) ?_
        walk_at "vc"
        refine w_rI (pow5 (by omega)) ?_
        walk_at "vc"
        generalize (sd + 7919 * (0 + (i : Int)) + 104729) ^ (5 : Int).toNat = pw
        have f1 : 0 ≤ pw % 2147483647 := Int.emod_nonneg _ (by decide)
        have f2 : pw % 2147483647 < 2147483647 := Int.emod_lt_of_pos _ (by decide)
        generalize pw % 2147483647 = mx at f1 f2
        refine ⟨.inl ⟨rfl, _, SqL.of upd_same⟩, ?_⟩
        walk_at "vc"
        refine w_rI (mw (by unfold Bn; omega) (Bn.mono (m := 64) (by unfold Bn; omega) (by decide))) ?_
        walk_at "vc"
        refine w_ixL (hl1 _) (at_of (by omega) (at_map hsz)) ?_
        refine w_rI hpos.1 ?_
        walk_at "vc"
        have hln : ns.length ≤ 63 := by
          have := r.1
          rw [List.length_take] at this
          omega
        refine w_app upd_same (by rw [List.length_map]; omega) ?_
        walk_at "vc"
        exact ⟨ns ++ [_], _, _, _, rfl, by rw [upd_upd, List.map_append]; rfl, r.more hsz (Int.emod_nonneg _ (by omega)) (Int.emod_lt_of_pos _ hpos.1)⟩
      · rintro σ H' ⟨ns, v4, v6, v7, rfl, rfl, r⟩
        walk_at "vc"
        have e : ((ss.map V.int).length : Int).toNat = ss.length := by simp
        rw [e, List.take_length] at r
        exact q p ns np r
end
end AT
namespace AT
open PySem PySem.Spec PyProof.Rows L2
section
variable {P : Program} {w : World} {K : PySem.W.Frag} {mg : Str → Option Value} {base : Heap}
/-- making a moment -/
theorem w_mom {C CE : Addr} {t b : Int} {dvs vs : List V} {H : Hp} {Q : VK} {E : XK} (e : vs ++ dvs = [.int t, .int b]) (ht : Bn 8000 t) (hb : Bn 8000 b) (h0 : b ≠ 0)
    (k : ∀ p H', Ext H H' → Mo C H' (.ref p) (Rat.divInt t b) → Q (.ref p) H') : rMakeS C (spMom C CE) dvs E vs H Q := by
  intro x dx nx ndx ne
  refine ⟨x, dx, t, b, by rw [e], upd_same, ht, hb, fun z => absurd z h0, fun _ => ⟨rfl, k x _ ?_ ⟨x, dx, rfl, upd_same⟩⟩⟩
  exact Ext.mut (Ext.mut (Ext.new ndx) nx) nx
/-- .. or the error -/
theorem w_momX {C CE : Addr} {t b : Int} {dvs vs : List V} {H : Hp} {Q : VK} {E : XK} (e : vs ++ dvs = [.int t, .int b]) (ht : Bn 8000 t) (hb : Bn 8000 b)
    (hE : b = 0 → ∀ d H', H d = none → Ext H H' → H' d = some (.xd [("bottom", .int b), ("top", .int t)]) → E (.ref CE) (some d) H')
    (k : b ≠ 0 → ∀ p H', Ext H H' → Mo C H' (.ref p) (Rat.divInt t b) → Q (.ref p) H') : rMakeS C (spMom C CE) dvs E vs H Q := by
  intro x dx nx ndx ne
  have e1 : ∀ o o', Ext H (upd (upd H dx o) x o') := fun o o' => Ext.mut (Ext.new ndx) nx
  refine ⟨x, dx, t, b, by rw [e], upd_same, ht, hb, fun z d H' nd x1 hd => hE z d H' ((e1 _ _).fresh nd) ((e1 _ _).t x1) hd, fun h0 => ⟨rfl, k h0 x _ ?_ ⟨x, dx, rfl, upd_same⟩⟩⟩
  exact Ext.mut (e1 _ _) nx
theorem mom_binds2 (T : Tx K mg) : ∃ ds, Vals [.int 1] ds ∧ Binds K T.d_Moment___init__ ["self", "top", "bottom"] ds :=
  T.F_Moment___init__.binds1 2 0 (by simp) (by decide) fun Td kV doc pm an cdv ct us its hu hi => match us, its, hu, hi with
    | [_, _], [_], _, _ => ⟨_, rfl, rfl⟩
theorem mom_binds3 (T : Tx K mg) : ∃ ds, Vals [] ds ∧ Binds K T.d_Moment___init__ ["self", "top", "bottom"] ds :=
  T.F_Moment___init__.binds1 3 1 (by simp) (by decide) fun Td kV doc pm an cdv ct us its hu hi => match us, its, hu, hi with
    | [_, _, _], [_], _, _ => ⟨_, rfl, rfl⟩
end
end AT
namespace AT
open PySem PySem.Spec PyProof.Rows L2
section
variable {P : Program} {w : World} {K : PySem.W.Frag} {mg : Str → Option Value} {base : Heap}
/-- an int or a moment that is worth r -/
def Opd (n : Nat) (C : Addr) (H : Hp) (y : V) (r : Rat) : Prop := (∃ i : Int, y = .int i ∧ r = (i : Rat) ∧ Bn n i) ∨ (Mo C H y r ∧ Sm n r)
theorem Opd.int {n : Nat} {C : Addr} {H : Hp} {i : Int} (b : Bn n i) : Opd n C H (.int i) (i : Rat) := .inl ⟨i, rfl, rfl, b⟩
theorem Opd.up {n : Nat} {C : Addr} {H H' : Hp} {y : V} {r : Rat} (h : Opd n C H y r) (e : Ext H H') : Opd n C H' y r := h.imp id fun h => ⟨h.1.up e, h.2⟩
theorem Opd.mono {m n : Nat} {C : Addr} {H : Hp} {y : V} {r : Rat} (h : Opd m C H y r) (l : m ≤ n) : Opd n C H y r := h.imp (fun ⟨i, a, b, c⟩ => ⟨i, a, b, c.mono l⟩) fun h => ⟨h.1, h.2.mono l⟩
/-- v op y -/
def spBin (f : Rat → Rat → Rat) (C : Addr) : Sp := fun vs H Q _ => ∃ (v y : V) (q r : Rat), vs = [v, y] ∧ Mo C H v q ∧ Sm 3900 q ∧ Opd 3900 C H y r ∧ ∀ p H', Ext H H' → Mo C H' (.ref p) (f q r) → Q (.ref p) H'
/-- i op v, by v's method -/
def spRBin (f : Rat → Rat → Rat) (C : Addr) : Sp := fun vs H Q _ => ∃ (v : V) (i : Int) (q : Rat), vs = [v, .int i] ∧ Mo C H v q ∧ Sm 3900 q ∧ Bn 3900 i ∧ ∀ p H', Ext H H' → Mo C H' (.ref p) (f q (i : Rat)) → Q (.ref p) H'
theorem w_bin {f : Rat → Rat → Rat} {C : Addr} {v y : V} {q r : Rat} {H : Hp} {Q : VK} {E : XK} (m : Mo C H v q) (s : Sm 3900 q) (o : Opd 3900 C H y r) (k : ∀ p H', Ext H H' → Mo C H' (.ref p) (f q r) → Q (.ref p) H') : rIns C (spBin f C) E v y H Q := by
  obtain ⟨a, dx, rfl, z⟩ := id m
  refine ⟨a, dx, _, rfl, z, ?_, _, _, q, r, rfl, m, s, o, k⟩
  rcases o with ⟨i, rfl, _⟩ | ⟨⟨b, dy, rfl, z2⟩, _⟩
  · exact .inl ⟨i, rfl⟩
  · exact .inr ⟨b, dy, _, rfl, z2⟩
theorem w_rbin {f : Rat → Rat → Rat} {C : Addr} {v : V} {i : Int} {q : Rat} {H : Hp} {Q : VK} {E : XK} (m : Mo C H v q) (s : Sm 3900 q) (b : Bn 3900 i) (k : ∀ p H', Ext H H' → Mo C H' (.ref p) (f q (i : Rat)) → Q (.ref p) H') : rIntIns C (spRBin f C) E (.int i) v H Q := by
  obtain ⟨a, dx, rfl, z⟩ := id m
  exact ⟨i, a, dx, _, rfl, rfl, z, _, i, q, rfl, m, s, b, k⟩
theorem bn_mul {i j : Int} (h : Bn 3900 i) (l : Bn 3900 j) : Bn 7800 (i * j) := (h.mul l).mono (by decide)
theorem bn_addM {i j k l : Int} (h : Bn 3900 i) (h2 : Bn 3900 j) (h3 : Bn 3900 k) (h4 : Bn 3900 l) : Bn 8000 (i * j + k * l) := ((bn_mul h h2).add (bn_mul h3 h4)).mono (by decide)
theorem bn_subM {i j k l : Int} (h : Bn 3900 i) (h2 : Bn 3900 j) (h3 : Bn 3900 k) (h4 : Bn 3900 l) : Bn 8000 (i * j - k * l) := ((bn_mul h h2).sub (bn_mul h3 h4)).mono (by decide)
theorem bn_add1 {i k l : Int} (h : Bn 3900 i) (h3 : Bn 3900 k) (h4 : Bn 3900 l) : Bn 8000 (i + k * l) := ((h.mono (by decide)).add (bn_mul h3 h4)).mono (by decide)
theorem bn_sub1 {i k l : Int} (h : Bn 3900 i) (h3 : Bn 3900 k) (h4 : Bn 3900 l) : Bn 8000 (i - k * l) := ((h.mono (by decide)).sub (bn_mul h3 h4)).mono (by decide)
theorem bn_sub2 {i k l : Int} (h : Bn 3900 i) (h3 : Bn 3900 k) (h4 : Bn 3900 l) : Bn 8000 (k * l - i) := ((bn_mul h3 h4).sub (h.mono (by decide))).mono (by decide)
theorem bn_up {i : Int} (h : Bn 3900 i) : Bn 8000 i := h.mono (by decide)
theorem bn_mulU {i j : Int} (h : Bn 3900 i) (l : Bn 3900 j) : Bn 8000 (i * j) := (bn_mul h l).mono (by decide)
theorem w_m39 {H : Hp} {Q : VK} {i j : Int} (h1 : Bn 3900 i) (h2 : Bn 3900 j) (k : Q (.int (i * j)) H) : rI CMulW (fun i j => .int (i * j)) (.int i) (.int j) H Q := w_mulW (m := 3900) (n := 3900) h1 h2 (by decide) (by decide) (by decide) k
end
end AT
namespace AT
open PySem PySem.Spec PyProof.Rows L2
section
variable {P : Program} {w : World} {K : PySem.W.Frag} {mg : Str → Option Value} {base : Heap}
/-- a moment's attributes -/
theorem w_top {T : Tx K mg} {H : Hp} {Q : VK} {v : V} {q : Rat} (h : Mo T.C_Moment H v q) (k : Q (.int q.num) H) : rFld K "top" v H Q := by
  obtain ⟨a, dx, rfl, z⟩ := h
  exact ⟨a, _, dx, _, _, rfl, z, T.o_Moment.cl, T.na_Moment_top, momF_top q, k⟩
theorem w_bottom {T : Tx K mg} {H : Hp} {Q : VK} {v : V} {q : Rat} (h : Mo T.C_Moment H v q) (k : Q (.int (q.den : Int)) H) : rFld K "bottom" v H Q := by
  obtain ⟨a, dx, rfl, z⟩ := h
  exact ⟨a, _, dx, _, _, rfl, z, T.o_Moment.cl, T.na_Moment_bottom, momF_bottom q, k⟩
theorem Mo.ty {T : Tx K mg} {H : Hp} {v : V} {q : Rat} (h : Mo T.C_Moment H v q) : TyX K H v (.ref T.C_Moment) := by
  obtain ⟨a, dx, rfl, z⟩ := h
  exact T.o_Moment.ty z
theorem w_moMo {T : Tx K mg} {H : Hp} {Q : VK} {v : V} {q : Rat} (h : Mo T.C_Moment H v q) (k : Q (.bl true) H) : rIsi K [v, .ref T.C_Moment] H Q := w_isi (.own _) h.ty kit_self k
theorem w_moInt {T : Tx K mg} {H : Hp} {Q : VK} {v : V} {q : Rat} (h : Mo T.C_Moment H v q) (k : Q (.bl false) H) : rIsi K [v, .ty "int"] H Q := w_isi (.ty "int") h.ty (kit_insTy T.o_Moment.notInt (by decide +kernel)) k
theorem w_tyMo {T : Tx K mg} {H : Hp} {Q : VK} {v : V} {t : String} (h : TyX K H v (.type t)) (hs : PySem.W.subIn K (.type t) (.ref T.C_Moment) = some false) (k : Q (.bl false) H) : rIsi K [v, .ref T.C_Moment] H Q :=
  w_isi (.own _) h (kit_own T.k1_Moment T.k2_Moment hs (by simp)) k
end
end AT
namespace AT
open PySem PySem.Spec PyProof.Rows L2
section
variable {P : Program} {w : World} {K : PySem.W.Frag} {mg : Str → Option Value} {base : Heap}
def spAsM (C : Addr) : Sp := fun vs H Q _ => ∃ (y : V) (r : Rat), vs = [y] ∧ Opd 3900 C H y r ∧ ∀ p H', Ext H H' → Mo C H' (.ref p) r → Q (.ref p) H'
theorem c_asM {C : Addr} {y : V} {r : Rat} {H : Hp} {Q : VK} {E : XK} (o : Opd 3900 C H y r) (k : ∀ p H', Ext H H' → Mo C H' (.ref p) r → Q (.ref p) H') : spAsM C [y] H Q E := ⟨y, r, rfl, o, k⟩
theorem ok_as_moment (T : Tx K mg) : FnOk P w K mg base CX0 5 T.a_as_moment T.d_as_moment ["value"] (spAsM T.C_Moment) := by
  refine T.F_as_moment.ok sc_as_moment (fun vs H Q E h => ?_) (fun cdv A outer s H vs Q E hr h => ?_)
  · obtain ⟨y, r, rfl, _⟩ := h
    rfl
  · obtain ⟨y, r, rfl, o, k⟩ := h
    have G_Moment___init__ : FnOk P w K mg base (L2.CX P w) 3 T.a_Moment___init__ T.d_Moment___init__ ["self", "top", "bottom"] (spMom T.C_Moment T.C_NoMoment) := ok_Moment___init__ T
    obtain ⟨ds2, V2_Moment___init__, B2_Moment___init__⟩ := mom_binds2 T
    have hr_Moment___init__ : Room 4 _ := hr
    refine ⟨_, ((pss_cons (ps_if (pt_val (pe_callB call_isi (by rfl) T.n_isinstance boot_isinstance (pa_cons (pv 0) (pa_cons (pe_bltn (v := .ty "int") rfl T.n_int boot_int rfl) pa_nil)))) (pss_one (ps_ret (pe_makeR T.M_Moment G_Moment___init__ hr_Moment___init__ rfl T.g_Moment B2_Moment___init__ V2_Moment___init__ passL (pa_cons (pv 0) pa_nil)))) pss_nil)
 (pss_one (ps_ret (pv 0))))), ?_⟩
    rcases o with ⟨i, rfl, rfl, bi⟩ | ⟨m, sm⟩
    · walk_at "vc"
      refine w_mom rfl (bn_up bi) (by decide) (by decide) fun p H1 e m1 => ?_
      rw [divInt_one] at m1
      exact k p H1 e m1
    · walk_at "vc"
      refine w_moInt m ?_
      walk_at "vc"
      obtain ⟨a, dx, rfl, z⟩ := m
      exact k a H (fun _ _ e => e) ⟨a, dx, rfl, z⟩
end
end AT
local macro_rules | `(tactic| walk_at "up") => `(tactic| (first | assumption | (apply Mo.up; assumption; walk_at "up") | (apply AT.up_opd; assumption; walk_at "up") | (apply PrQ.up; assumption; walk_at "up") | (apply MkA.up; assumption; walk_at "up") | (apply L2.Same.seq; assumption; walk_at "up") | (apply L2.Same.seqT; assumption; walk_at "up")))
local macro_rules | `(tactic| walk_at "go") => `(tactic| (repeat (first | (walk_at "vc1") | (refine w_var (by rfl) ?_) | (refine w_aug (by rfl) ?_) | (refine w_pow (by decide) ?_) | (refine w_mod (by decide) ?_) | (refine w_ixT (by walk_at "up") (by rfl) ?_) | (refine w_ixL (by walk_at "up") (by rfl) ?_) | (refine w_top (by walk_at "up") ?_) | (refine w_bottom (by walk_at "up") ?_) | (refine w_eqMM (by walk_at "up") (by walk_at "up") ?_) | (refine w_neMM (by walk_at "up") (by walk_at "up") ?_))))
local macro_rules | `(tactic| walk_at "txl") => `(tactic| (first | omega | (simp only [List.length_take, List.length_drop, List.length_append, List.length_cons, List.length_nil]; omega)))
local macro_rules | `(tactic| walk_at "tx1") => `(tactic| (with_reducible first
  | refine w_sl ?_ | refine w_noPart ?_ | refine w_part ?_ | refine w_partI ?_ | refine w_eqT ?_ | refine w_neT ?_ | refine w_inS ?_ | refine w_notInS ?_ | refine w_iStr ?_ | refine w_itS ?_))
local macro_rules | `(tactic| walk_at "tx") => `(tactic| (repeat (first | (walk_at "vc1") | (walk_at "tx1") | (refine w_var (by rfl) ?_) | (refine w_aug (by rfl) ?_) | (refine w_pow (by decide) ?_) | (refine w_mod (by decide) ?_) | (refine w_ixT (by walk_at "up") (by rfl) ?_) | (refine w_ixL (by walk_at "up") (by rfl) ?_) | (refine w_top (by walk_at "up") ?_) | (refine w_bottom (by walk_at "up") ?_) | (refine w_lenT' (by walk_at "txl") ?_) | (refine w_slTo (by decide) (by walk_at "txl") ?_) | (refine w_slFrom (by decide) (by walk_at "txl") ?_) | (refine w_catT (by walk_at "txl") ?_))))
local macro_rules | `(tactic| walk_at "tg") => `(tactic| (repeat (first | (walk_at "vc1") | (walk_at "tx1") | (refine w_var (by rfl) ?_) | (refine w_aug (by rfl) ?_) | (refine w_pow (by decide) ?_) | (refine w_mod (by decide) ?_) | (refine w_ixT (by walk_at "up") (by rfl) ?_) | (refine w_ixL (by walk_at "up") (by rfl) ?_) | (refine w_top (by walk_at "up") ?_) | (refine w_bottom (by walk_at "up") ?_) | (refine w_lenT' (by walk_at "txl") ?_) | (refine w_slTo (by decide) (by walk_at "txl") ?_) | (refine w_slFrom (by decide) (by walk_at "txl") ?_) | (refine w_catT (by walk_at "txl") ?_) | (with_reducible refine i_no (by decide) ?_) | (with_reducible refine i_yes (by decide) ?_))))
namespace AT
open PySem PySem.Spec PyProof.Rows L2 SX
/-! ### pieces as trees -/
inductive Tr where
  | hole (l : List Nat) | sil | sgn (c : Nat) (a b : Tr) | up (a : Tr) (k : Int) | shift (a : Tr) (q : Rat) | pace (a : Tr) (q : Rat) | mirror (a : Tr)
  | only (a : Tr) (q r : Rat) (n : Int) | every (a b : Tr) (s f : Int) | nth (a : Tr) (i s : Int) | turns (ts : List Tr)
abbrev tgHole : V := .str (S [104, 111, 108, 101])
abbrev tgSil : V := .str (S [115, 105, 108, 101, 110, 99, 101])
abbrev tgUp : V := .str (S [117, 112])
abbrev tgShift : V := .str (S [115, 104, 105, 102, 116])
abbrev tgPace : V := .str (S [112, 97, 99, 101])
abbrev tgMirror : V := .str (S [109, 105, 114, 114, 111, 114])
abbrev tgOnly : V := .str (S [111, 110, 108, 121])
abbrev tgEvery : V := .str (S [101, 118, 101, 114, 121])
abbrev tgNth : V := .str (S [110, 116, 104])
abbrev tgTurns : V := .str (S [116, 117, 114, 110, 115])
abbrev tgCells : V := .str (S [99, 101, 108, 108, 115])
mutual
/-- v is the tree t -/
inductive TreeAt (K : PySem.W.Frag) (CM : Addr) (H : Hp) : V → Tr → Prop where
  | hole {p : Addr} {l : List Nat} (u : SqT K H p [tgHole, .str (S l)]) : TreeAt K CM H (.ref p) (.hole l)
  | sil {p : Addr} (u : SqT K H p [tgSil]) : TreeAt K CM H (.ref p) .sil
  | sgn {p : Addr} {c : Nat} {x y : V} {a b : Tr} (hc : c = 124 ∨ c = 38 ∨ c = 45 ∨ c = 94) (u : SqT K H p [.str (S [c]), x, y]) (h1 : TreeAt K CM H x a) (h2 : TreeAt K CM H y b) : TreeAt K CM H (.ref p) (.sgn c a b)
  | up {p : Addr} {x : V} {a : Tr} {k : Int} (u : SqT K H p [tgUp, x, .int k]) (h1 : TreeAt K CM H x a) : TreeAt K CM H (.ref p) (.up a k)
  | shift {p : Addr} {x m : V} {a : Tr} {q : Rat} (u : SqT K H p [tgShift, x, m]) (h1 : TreeAt K CM H x a) (hm : Mo CM H m q) : TreeAt K CM H (.ref p) (.shift a q)
  | pace {p : Addr} {x m : V} {a : Tr} {q : Rat} (u : SqT K H p [tgPace, x, m]) (h1 : TreeAt K CM H x a) (hm : Mo CM H m q) : TreeAt K CM H (.ref p) (.pace a q)
  | mirror {p : Addr} {x : V} {a : Tr} (u : SqT K H p [tgMirror, x]) (h1 : TreeAt K CM H x a) : TreeAt K CM H (.ref p) (.mirror a)
  | only {p : Addr} {x m m' : V} {a : Tr} {q r : Rat} {n : Int} (u : SqT K H p [tgOnly, x, m, m', .int n]) (h1 : TreeAt K CM H x a) (hm : Mo CM H m q) (hm' : Mo CM H m' r) : TreeAt K CM H (.ref p) (.only a q r n)
  | every {p : Addr} {x y : V} {a b : Tr} {s f : Int} (u : SqT K H p [tgEvery, x, y, .int s, .int f]) (h1 : TreeAt K CM H x a) (h2 : TreeAt K CM H y b) : TreeAt K CM H (.ref p) (.every a b s f)
  | nth {p : Addr} {x : V} {a : Tr} {i s : Int} (u : SqT K H p [tgNth, x, .int i, .int s]) (h1 : TreeAt K CM H x a) : TreeAt K CM H (.ref p) (.nth a i s)
  | turns {p q : Addr} {xs : List V} {ts : List Tr} (u : SqT K H p [tgTurns, .ref q]) (w : SqT K H q xs) (h : TreesAt K CM H xs ts) : TreeAt K CM H (.ref p) (.turns ts)
inductive TreesAt (K : PySem.W.Frag) (CM : Addr) (H : Hp) : List V → List Tr → Prop where
  | nil : TreesAt K CM H [] []
  | cons {x : V} {xs : List V} {t : Tr} {ts : List Tr} (h : TreeAt K CM H x t) (r : TreesAt K CM H xs ts) : TreesAt K CM H (x :: xs) (t :: ts)
end
section
variable {K : PySem.W.Frag} {CM : Addr} {H H' : Hp}
mutual
theorem TreeAt.lift {v : V} {t : Tr} (e : Ext H H') : TreeAt K CM H v t → TreeAt K CM H' v t
  | .hole u => .hole (e.seqT u)
  | .sil u => .sil (e.seqT u)
  | .sgn hc u h1 h2 => .sgn hc (e.seqT u) (h1.lift e) (h2.lift e)
  | .up u h1 => .up (e.seqT u) (h1.lift e)
  | .shift u h1 hm => .shift (e.seqT u) (h1.lift e) (hm.up e)
  | .pace u h1 hm => .pace (e.seqT u) (h1.lift e) (hm.up e)
  | .mirror u h1 => .mirror (e.seqT u) (h1.lift e)
  | .only u h1 hm hm' => .only (e.seqT u) (h1.lift e) (hm.up e) (hm'.up e)
  | .every u h1 h2 => .every (e.seqT u) (h1.lift e) (h2.lift e)
  | .nth u h1 => .nth (e.seqT u) (h1.lift e)
  | .turns u w h => .turns (e.seqT u) (e.seqT w) (h.lift e)
theorem TreesAt.lift {xs : List V} {ts : List Tr} (e : Ext H H') : TreesAt K CM H xs ts → TreesAt K CM H' xs ts
  | .nil => .nil
  | .cons h r => .cons (h.lift e) (r.lift e)
end
theorem TreesAt.len {xs : List V} {ts : List Tr} : TreesAt K CM H xs ts → xs.length = ts.length
  | .nil => rfl
  | .cons _ r => congrArg Nat.succ r.len
theorem TreesAt.get {xs : List V} {ts : List Tr} {i : Nat} {x : V} : TreesAt K CM H xs ts → xs[i]? = some x → ∃ t, ts[i]? = some t ∧ TreeAt K CM H x t
  | .nil, e => by simp at e
  | .cons h r, e => by
    cases i with
    | zero => simp at e; subst e; exact ⟨_, rfl, h⟩
    | succ i => simp at e; obtain ⟨t, h1, h2⟩ := r.get e; exact ⟨t, by simpa using h1, h2⟩
end
def kids : Tr → List Tr
  | .hole _ | .sil => []
  | .sgn _ a b | .every a b _ _ => [a, b]
  | .up a _ | .shift a _ | .pace a _ | .mirror a | .only a _ _ _ | .nth a _ _ => [a]
  | .turns ts => ts
mutual
def names : Tr → List (List Nat)
  | .hole l => [l]
  | .sil => []
  | .sgn _ a b | .every a b _ _ => names a ++ names b
  | .up a _ | .shift a _ | .pace a _ | .mirror a | .only a _ _ _ | .nth a _ _ => names a
  | .turns ts => namesL ts
def namesL : List Tr → List (List Nat)
  | [] => []
  | t :: ts => names t ++ namesL ts
end
mutual
def dep : Tr → Nat
  | .hole _ | .sil => 1
  | .sgn _ a b | .every a b _ _ => max (dep a) (dep b) + 1
  | .up a _ | .shift a _ | .pace a _ | .mirror a | .only a _ _ _ | .nth a _ _ => dep a + 1
  | .turns ts => depL ts + 1
def depL : List Tr → Nat
  | [] => 0
  | t :: ts => max (dep t) (depL ts)
end
theorem names_kids {t : Tr} (h : ∀ l, t ≠ .hole l) : names t = namesL (kids t) := by
  cases t <;> simp [names, namesL, kids]
  case hole l => exact absurd rfl (h l)
theorem dep_kid : ∀ {ts : List Tr} {i : Nat} {t : Tr}, ts[i]? = some t → dep t ≤ depL ts
  | [], i, t, e => by simp at e
  | a :: ts, 0, t, e => by simp at e; subst e; simp [depL]; omega
  | a :: ts, i + 1, t, e => by have := dep_kid (ts := ts) (i := i) (t := t) (by simpa using e); simp [depL]; omega
theorem dep_kids {t : Tr} {i : Nat} {c : Tr} (e : (kids t)[i]? = some c) : dep c + 1 ≤ dep t := by
  have := dep_kid e
  cases t <;> simp [kids, depL, dep] at * <;> omega
theorem namesL_take {ts : List Tr} {i : Nat} {t : Tr} (e : ts[i]? = some t) : namesL (ts.take (i + 1)) = namesL (ts.take i) ++ names t := by
  have app : ∀ a b : List Tr, namesL (a ++ b) = namesL a ++ namesL b := fun a b => by
    induction a with
    | nil => rfl
    | cons x a ih => simp [namesL, ih]
  rw [List.take_add_one, e, app]
  simp [namesL]
theorem namesL_len (ts : List Tr) (i : Nat) : (namesL (ts.take i)).length ≤ (namesL ts).length := by
  have app : ∀ a b : List Tr, namesL (a ++ b) = namesL a ++ namesL b := fun a b => by
    induction a with
    | nil => rfl
    | cons x a ih => simp [namesL, ih]
  conv => rhs; rw [← List.take_append_drop i ts, app]
  simp
end AT
namespace AT
open PySem PySem.Spec PyProof.Rows L2 SX
def rListN (K : PySem.W.Frag) : List V → Hp → VK → Prop := fun xs H Q => ∃ p ys, xs = [.ref p] ∧ (SqL K H p ys ∨ SqT K H p ys) ∧ ∀ l H', Ext H H' → H l = none → H' l = some (.lst ys) → Q (.ref l) H'
section
variable {P : Program} {w : World} {K : PySem.W.Frag} {mg : Str → Option Value} {base : Heap}
theorem call_listN {X : Cx} : CallR X (.type "list") (rListN X.K) := fun pins s σ H xs us Q I r h => by
  obtain ⟨p, ys, rfl, hs, k⟩ := h
  exact call_list_of pins s σ H _ us Q I r ⟨p, ys, rfl, hs, fun l hl => k l _ (Ext.new hl) hl upd_same⟩
theorem tb_hole (T : Tx K mg) : PySem.W.nsIn K T.D_TABLES (S [104, 111, 108, 101]) = some none := by
  rw [show S [104, 111, 108, 101] = Str.ofString "hole" from by decide +kernel]
  exact T.da_TABLES_0
theorem tb_silence (T : Tx K mg) : PySem.W.nsIn K T.D_TABLES (S [115, 105, 108, 101, 110, 99, 101]) = some none := by
  rw [show S [115, 105, 108, 101, 110, 99, 101] = Str.ofString "silence" from by decide +kernel]
  exact T.da_TABLES_1
theorem tb_up (T : Tx K mg) : PySem.W.nsIn K T.D_TABLES (S [117, 112]) = some none := by
  rw [show S [117, 112] = Str.ofString "up" from by decide +kernel]
  exact T.da_TABLES_2
theorem tb_shift (T : Tx K mg) : PySem.W.nsIn K T.D_TABLES (S [115, 104, 105, 102, 116]) = some none := by
  rw [show S [115, 104, 105, 102, 116] = Str.ofString "shift" from by decide +kernel]
  exact T.da_TABLES_3
theorem tb_pace (T : Tx K mg) : PySem.W.nsIn K T.D_TABLES (S [112, 97, 99, 101]) = some none := by
  rw [show S [112, 97, 99, 101] = Str.ofString "pace" from by decide +kernel]
  exact T.da_TABLES_4
theorem tb_mirror (T : Tx K mg) : PySem.W.nsIn K T.D_TABLES (S [109, 105, 114, 114, 111, 114]) = some none := by
  rw [show S [109, 105, 114, 114, 111, 114] = Str.ofString "mirror" from by decide +kernel]
  exact T.da_TABLES_5
theorem tb_only (T : Tx K mg) : PySem.W.nsIn K T.D_TABLES (S [111, 110, 108, 121]) = some none := by
  rw [show S [111, 110, 108, 121] = Str.ofString "only" from by decide +kernel]
  exact T.da_TABLES_6
theorem tb_every (T : Tx K mg) : PySem.W.nsIn K T.D_TABLES (S [101, 118, 101, 114, 121]) = some none := by
  rw [show S [101, 118, 101, 114, 121] = Str.ofString "every" from by decide +kernel]
  exact T.da_TABLES_7
theorem tb_nth (T : Tx K mg) : PySem.W.nsIn K T.D_TABLES (S [110, 116, 104]) = some none := by
  rw [show S [110, 116, 104] = Str.ofString "nth" from by decide +kernel]
  exact T.da_TABLES_8
theorem tb_turns (T : Tx K mg) : PySem.W.nsIn K T.D_TABLES (S [116, 117, 114, 110, 115]) = some none := by
  rw [show S [116, 117, 114, 110, 115] = Str.ofString "turns" from by decide +kernel]
  exact T.da_TABLES_9
theorem tb_cells (T : Tx K mg) : PySem.W.nsIn K T.D_TABLES (S [99, 101, 108, 108, 115]) = some none := by
  rw [show S [99, 101, 108, 108, 115] = Str.ofString "cells" from by decide +kernel]
  exact T.da_TABLES_10
theorem tb_sgn (T : Tx K mg) {c : Nat} (h : c = 124 ∨ c = 38 ∨ c = 45 ∨ c = 94) : ∃ u, PySem.W.nsIn K T.D_TABLES (S [c]) = some (some u) := by
  rcases h with rfl | rfl | rfl | rfl
  · rw [show S [124] = Str.ofString "|" from by decide +kernel]
    obtain ⟨u, e, _⟩ := T.dp_TABLES_0
    exact ⟨u, e⟩
  · rw [show S [38] = Str.ofString "&" from by decide +kernel]
    obtain ⟨u, e, _⟩ := T.dp_TABLES_1
    exact ⟨u, e⟩
  · rw [show S [45] = Str.ofString "-" from by decide +kernel]
    obtain ⟨u, e, _⟩ := T.dp_TABLES_2
    exact ⟨u, e⟩
  · rw [show S [94] = Str.ofString "^" from by decide +kernel]
    obtain ⟨u, e, _⟩ := T.dp_TABLES_3
    exact ⟨u, e⟩
def spKids (K : PySem.W.Frag) (CM : Addr) : Sp := fun vs H Q _ => ∃ (v : V) (t : Tr), vs = [v] ∧ TreeAt K CM H v t ∧ ∀ p H' xs, Ext H H' → H p = none → H' p = some (.lst xs) → TreesAt K CM H' xs (kids t) → Q (.ref p) H'
theorem ok_children (T : Tx K mg) (hw : T.PR = w.params) : FnOk P w K mg base CX0 1 T.a_children T.d_children ["tree"] (spKids K T.C_Moment) := by
  obtain ⟨es, en, KD⟩ := T.kd_TABLES w hw
  refine T.F_children.ok sc_children (fun vs H Q E h => ?_) (fun cdv A outer s H vs Q E hr h => ?_)
  · obtain ⟨v, t, rfl, _⟩ := h
    rfl
  · obtain ⟨v, t, rfl, ta, k⟩ := h
    refine ⟨_, ((pss_cons (ps_if (pt_cmpR (op_inKd KD) (pe_ix ix_tup (pv 0) pe_int (fun _ _ => rfl)) (pe_glob (v := .ref T.D_TABLES) rfl T.g_TABLES rfl) (by rfl)) (pss_one (ps_ret (pe_lst (pa_cons (pe_ix ix_tup (pv 0) pe_int (fun _ _ => rfl)) (pa_cons (pe_ix ix_tup (pv 0) pe_int (fun _ _ => rfl)) pa_nil))))) pss_nil)
 (pss_cons (ps_if (pt_cmpR op_eq (pe_ix ix_tup (pv 0) pe_int (fun _ _ => rfl)) (pe_strS (l := [101, 118, 101, 114, 121]) (by decide +kernel)) (nomark _)) (pss_one (ps_ret (pe_lst (pa_cons (pe_ix ix_tup (pv 0) pe_int (fun _ _ => rfl)) (pa_cons (pe_ix ix_tup (pv 0) pe_int (fun _ _ => rfl)) pa_nil))))) pss_nil)
 (pss_cons (ps_if (pt_cmpR op_eq (pe_ix ix_tup (pv 0) pe_int (fun _ _ => rfl)) (pe_strS (l := [116, 117, 114, 110, 115]) (by decide +kernel)) (nomark _)) (pss_one (ps_ret (pe_callTy call_listN (by rfl) T.n_list boot_list (pa_cons (pe_ix ix_tup (pv 0) pe_int (fun _ _ => rfl)) pa_nil)))) pss_nil)
 (pss_cons (ps_if (pt_cmpR op_inSeq (pe_ix ix_tup (pv 0) pe_int (fun _ _ => rfl)) (pe_tup (pa_cons (pe_strS (l := [104, 111, 108, 101]) (by decide +kernel)) (pa_cons (pe_strS (l := [115, 105, 108, 101, 110, 99, 101]) (by decide +kernel)) (pa_cons (pe_strS (l := [99, 101, 108, 108, 115]) (by decide +kernel)) pa_nil)))) (by rfl)) (pss_one (ps_ret (pe_lst pa_nil))) pss_nil)
 (pss_one (ps_ret (pe_lst (pa_cons (pe_ix ix_tup (pv 0) pe_int (fun _ _ => rfl)) pa_nil))))))))), ?_⟩
    have one : ∀ {q : Addr} {x : V} {a : Tr} {H1 : Hp}, Ext H H1 → TreeAt K T.C_Moment H1 x a → kids t = [a] → rNewL [x] H1 Q := fun {q x a H1} e1 h1 ek =>
      n_lst (by show 1 ≤ 100000; decide) fun p H2 np e2 u2 => k p H2 [x] (e1.t e2) (e1.fresh np) u2 (by rw [ek]; exact .cons (h1.lift e2) .nil)
    have two : ∀ {x y : V} {a b : Tr}, TreeAt K T.C_Moment H x a → TreeAt K T.C_Moment H y b → kids t = [a, b] → rNewL [x, y] H Q := fun {x y a b} h1 h2 ek =>
      n_lst (by show 2 ≤ 100000; decide) fun p H2 np e2 u2 => k p H2 [x, y] e2 np u2 (by rw [ek]; exact .cons (h1.lift e2) (.cons (h2.lift e2) .nil))
    cases ta with
    | hole u =>
      walk_at "tg"
      refine w_inKd (tb_hole T) ?_
      walk_at "tg"
      refine n_tup (by show 3 ≤ 100000; decide) fun p1 H1 np1 e1 u1 => ?_
      refine ⟨p1, _, rfl, .inr (SqT.of u1), rfl, rfl, ?_⟩
      walk_at "tg"
      exact n_lst (by decide) fun p H2 np e2 u2 => k p H2 [] (e1.t e2) (e1.fresh np) u2 .nil
    | sil u =>
      walk_at "tg"
      refine w_inKd (tb_silence T) ?_
      walk_at "tg"
      refine n_tup (by show 3 ≤ 100000; decide) fun p1 H1 np1 e1 u1 => ?_
      refine ⟨p1, _, rfl, .inr (SqT.of u1), rfl, rfl, ?_⟩
      walk_at "tg"
      exact n_lst (by decide) fun p H2 np e2 u2 => k p H2 [] (e1.t e2) (e1.fresh np) u2 .nil
    | up u h1 =>
      walk_at "tg"
      refine w_inKd (tb_up T) ?_
      walk_at "tg"
      refine n_tup (by show 3 ≤ 100000; decide) fun p1 H1 np1 e1 u1 => ?_
      refine ⟨p1, _, rfl, .inr (SqT.of u1), rfl, rfl, ?_⟩
      walk_at "tg"
      exact one (q := p1) e1 (h1.lift e1) rfl
    | shift u h1 hm =>
      walk_at "tg"
      refine w_inKd (tb_shift T) ?_
      walk_at "tg"
      refine n_tup (by show 3 ≤ 100000; decide) fun p1 H1 np1 e1 u1 => ?_
      refine ⟨p1, _, rfl, .inr (SqT.of u1), rfl, rfl, ?_⟩
      walk_at "tg"
      exact one (q := p1) e1 (h1.lift e1) rfl
    | pace u h1 hm =>
      walk_at "tg"
      refine w_inKd (tb_pace T) ?_
      walk_at "tg"
      refine n_tup (by show 3 ≤ 100000; decide) fun p1 H1 np1 e1 u1 => ?_
      refine ⟨p1, _, rfl, .inr (SqT.of u1), rfl, rfl, ?_⟩
      walk_at "tg"
      exact one (q := p1) e1 (h1.lift e1) rfl
    | mirror u h1 =>
      walk_at "tg"
      refine w_inKd (tb_mirror T) ?_
      walk_at "tg"
      refine n_tup (by show 3 ≤ 100000; decide) fun p1 H1 np1 e1 u1 => ?_
      refine ⟨p1, _, rfl, .inr (SqT.of u1), rfl, rfl, ?_⟩
      walk_at "tg"
      exact one (q := p1) e1 (h1.lift e1) rfl
    | only u h1 hm hm2 =>
      walk_at "tg"
      refine w_inKd (tb_only T) ?_
      walk_at "tg"
      refine n_tup (by show 3 ≤ 100000; decide) fun p1 H1 np1 e1 u1 => ?_
      refine ⟨p1, _, rfl, .inr (SqT.of u1), rfl, rfl, ?_⟩
      walk_at "tg"
      exact one (q := p1) e1 (h1.lift e1) rfl
    | nth u h1 =>
      walk_at "tg"
      refine w_inKd (tb_nth T) ?_
      walk_at "tg"
      refine n_tup (by show 3 ≤ 100000; decide) fun p1 H1 np1 e1 u1 => ?_
      refine ⟨p1, _, rfl, .inr (SqT.of u1), rfl, rfl, ?_⟩
      walk_at "tg"
      exact one (q := p1) e1 (h1.lift e1) rfl
    | sgn hc u h1 h2 =>
      obtain ⟨z, ez⟩ := tb_sgn T hc
      walk_at "tg"
      refine w_inKd ez ?_
      walk_at "tg"
      exact two h1 h2 rfl
    | every u h1 h2 =>
      walk_at "tg"
      refine w_inKd (tb_every T) ?_
      walk_at "tg"
      exact two h1 h2 rfl
    | turns u hq h =>
      walk_at "tg"
      refine w_inKd (tb_turns T) ?_
      walk_at "tg"
      exact ⟨_, _, rfl, .inr hq, fun p H2 e2 np u2 => k p H2 _ e2 np u2 (h.lift e2)⟩
end
end AT
namespace AT
open PySem PySem.Spec PyProof.Rows L2 SX
def strV (l : List Nat) : V := .str (S l)
theorem dep_pos (t : Tr) : 1 ≤ dep t := by cases t <;> simp [dep]
section
variable {P : Program} {w : World} {K : PySem.W.Frag} {mg : Str → Option Value} {base : Heap}
def spNames (K : PySem.W.Frag) (CM : Addr) (d : Nat) : Sp := fun vs H Q _ => ∃ (v : V) (t : Tr), vs = [v] ∧ TreeAt K CM H v t ∧ dep t ≤ d ∧ (names t).length ≤ 1000 ∧ ∀ p H', Ext H H' → H p = none → H' p = some (.lst ((names t).map strV)) → Q (.ref p) H'
theorem c_names {CM : Addr} {d : Nat} {v : V} {t : Tr} {H : Hp} {Q : VK} {E : XK} (ta : TreeAt K CM H v t) (hd : dep t ≤ d) (hn : (names t).length ≤ 1000) (k : ∀ p H', Ext H H' → H p = none → H' p = some (.lst ((names t).map strV)) → Q (.ref p) H') : spNames K CM d [v] H Q E := ⟨v, t, rfl, ta, hd, hn, k⟩
theorem c_kids {CM : Addr} {v : V} {t : Tr} {H : Hp} {Q : VK} {E : XK} (ta : TreeAt K CM H v t) (k : ∀ p H' xs, Ext H H' → H p = none → H' p = some (.lst xs) → TreesAt K CM H' xs (kids t) → Q (.ref p) H') : spKids K CM [v] H Q E := ⟨v, t, rfl, ta, k⟩
/-- the tag of a tree that is no hole and no table of cells -/
theorem TreeAt.tag {CM : Addr} {H : Hp} {v : V} {t : Tr} (h : TreeAt K CM H v t) : ∃ (p : Addr) (tg : List Nat) (r : List V), v = .ref p ∧ SqT K H p (.str (S tg) :: r) ∧ tg ≠ [99, 101, 108, 108, 115] ∧ ((∃ l, t = .hole l ∧ tg = [104, 111, 108, 101] ∧ r = [.str (S l)]) ∨ ((∀ l, t ≠ .hole l) ∧ tg ≠ [104, 111, 108, 101])) := by
  cases h with
  | hole u => exact ⟨_, _, _, rfl, u, by decide, .inl ⟨_, rfl, rfl, rfl⟩⟩
  | sgn hc u h1 h2 => exact ⟨_, _, _, rfl, u, by simp, .inr ⟨fun l z => (by cases z), by simp⟩⟩
  | sil u => exact ⟨_, _, _, rfl, u, by decide, .inr ⟨fun l z => (by cases z), by decide⟩⟩
  | up u h1 => exact ⟨_, _, _, rfl, u, by decide, .inr ⟨fun l z => (by cases z), by decide⟩⟩
  | shift u h1 hm => exact ⟨_, _, _, rfl, u, by decide, .inr ⟨fun l z => (by cases z), by decide⟩⟩
  | pace u h1 hm => exact ⟨_, _, _, rfl, u, by decide, .inr ⟨fun l z => (by cases z), by decide⟩⟩
  | mirror u h1 => exact ⟨_, _, _, rfl, u, by decide, .inr ⟨fun l z => (by cases z), by decide⟩⟩
  | only u h1 hm hm2 => exact ⟨_, _, _, rfl, u, by decide, .inr ⟨fun l z => (by cases z), by decide⟩⟩
  | every u h1 h2 => exact ⟨_, _, _, rfl, u, by decide, .inr ⟨fun l z => (by cases z), by decide⟩⟩
  | nth u h1 => exact ⟨_, _, _, rfl, u, by decide, .inr ⟨fun l z => (by cases z), by decide⟩⟩
  | turns u hq h => exact ⟨_, _, _, rfl, u, by decide, .inr ⟨fun l z => (by cases z), by decide⟩⟩
theorem ok_names_in (T : Tx K mg) (hw : T.PR = w.params) : ∀ d, FnOk P w K mg base CX0 (d + 2) T.a_names_in T.d_names_in ["tree"] (spNames K T.C_Moment d)
  | 0 => by
    refine T.F_names_in.ok sc_names_in (fun vs H Q E h => ?_) (fun cdv A outer s H vs Q E hr h => ?_)
    · obtain ⟨v, t, rfl, _⟩ := h
      rfl
    · obtain ⟨v, t, rfl, ta, hd, _⟩ := h
      have := dep_pos t
      omega
  | d + 1 => by
    have G_names_in : FnOk P w K mg base CX0 (d + 2) T.a_names_in T.d_names_in ["tree"] (spNames K T.C_Moment d) := ok_names_in T hw d
    have G_children : FnOk P w K mg base CX0 1 T.a_children T.d_children ["tree"] (spKids K T.C_Moment) := ok_children T hw
    refine T.F_names_in.ok sc_names_in (fun vs H Q E h => ?_) (fun cdv A outer s H vs Q E hr h => ?_)
    · obtain ⟨v, t, rfl, _⟩ := h
      rfl
    · obtain ⟨v, t, rfl, ta, hd, hn, k⟩ := h
      have hr_names_in : Room (d + 2) _ := hr
      have hr_children : Room 1 _ := hr.mono (by omega : 1 ≤ d + 2)
      refine ⟨_, ((pss_cons (ps_if (pt_cmpR op_eq (pe_ix ix_tup (pv 0) pe_int (fun _ _ => rfl)) (pe_strS (l := [104, 111, 108, 101]) (by decide +kernel)) (nomark _)) (pss_one (ps_ret (pe_lst (pa_cons (pe_ix ix_tup (pv 0) pe_int (fun _ _ => rfl)) pa_nil)))) pss_nil)
 (pss_cons (ps_if (pt_cmpR op_eq (pe_ix ix_tup (pv 0) pe_int (fun _ _ => rfl)) (pe_strS (l := [99, 101, 108, 108, 115]) (by decide +kernel)) (nomark _)) (pss_one ps_never) pss_nil)
 (pss_cons (ps_set (i := 3) sc_names_in.nd rfl (Or.inl rfl) (pe_lst pa_nil))
 (pss_cons (ps_for PassesOwn.never rfl (pi_list (pe_call G_children hr_children rfl T.g_children T.F_children.kp T.b_children .nil pass0 (pa_cons (pv 0) pa_nil))) (pg_name (i := 4) sc_names_in.nd rfl (Or.inl rfl)) (pss_one (ps_set (i := 3) sc_names_in.nd rfl (Or.inl rfl) (pe_op op_cat (pv 3) (pe_call G_names_in hr_names_in rfl T.g_names_in T.F_names_in.kp T.b_names_in .nil pass0 (pa_cons (pv 4) pa_nil))))))
 (pss_one (ps_ret (pv 3)))))))), ?_⟩
      obtain ⟨p, tg, r, rfl, u, hc, ht⟩ := ta.tag
      walk_at "tx"
      refine w_ixT u (v := .str (S tg)) (atI_nat (j := 0) rfl) ?_
      walk_at "tx"
      refine i_dec (fun c => ?_) (fun c => ?_)
      · rcases ht with ⟨l, rfl, rfl, rfl⟩ | ⟨_, n⟩
        · walk_at "tx"
          refine n_lst (by show 1 ≤ 100000; decide) fun p1 H1 np e1 u1 => ?_
          exact k p1 H1 e1 np u1
        · exact absurd c n
      · rcases ht with ⟨l, rfl, rfl, rfl⟩ | ⟨nh, n⟩
        · exact absurd rfl c
        have hk : names t = namesL (kids t) := names_kids nh
        walk_at "tx"
        refine w_ixT u (v := .str (S tg)) (atI_nat (j := 0) rfl) ?_
        walk_at "tx"
        refine i_dec (fun c2 => absurd c2 hc) (fun _ => ?_)
        walk_at "tx"
        refine n_lst (by decide) fun p1 H1 np1 e1 u1 => ?_
        walk_at "tx"
        refine c_kids (ta.lift e1) fun p2 H2 xs e2 np2 u2 ts => ?_
        walk_at "tx"
        have u1 := e2 _ _ u1
        refine ⟨p2, rfl, ⟨_, SqL.of u2⟩, for_list (K := K) (a := p2) (xs := xs) (fun i σ' H' => ∃ po v4, σ' = [some (.ref p), none, none, some (.ref po), v4] ∧ Ext H2 H' ∧ H po = none ∧ H' po = some (.lst ((namesL ((kids t).take i)).map strV)))
          ⟨p1, none, rfl, fun _ _ e => e, np1, u1⟩ (fun i σ' H' _ h => by obtain ⟨_, _, _, e, _⟩ := h; exact SqL.of (e _ _ u2)) ?_ ?_⟩
        · rintro i x σ' H' hi ⟨po, v4, rfl, e, npo, uo⟩
          obtain ⟨c, hc2, tc⟩ := ts.get hi
          have tc := tc.lift e
          have dc := dep_kids hc2
          have len := namesL_take hc2
          have len2 := namesL_len (kids t) (i + 1)
          rw [len, List.length_append, ← hk] at len2
          walk_at "tx"
          refine c_names tc (by omega) (by omega) fun p3 H3 e3 np3 u3 => ?_
          refine ⟨po, p3, _, _, rfl, rfl, e3 _ _ uo, u3, by rw [List.length_map, List.length_map, sizeLine_eq]; omega, fun p4 np4 => ?_⟩
          walk_at "tx"
          refine ⟨p4, _, rfl, (e.t e3).t (Ext.new np4), (((e1.t e2).t e).t e3).fresh np4, ?_⟩
          rw [upd_same, len, List.map_append]
        · rintro σ' H' ⟨po, v4, rfl, e, npo, uo⟩
          rw [ts.len, List.take_length, ← hk] at uo
          walk_at "tx"
          exact k po H' ((e1.t e2).t e) npo uo
end
end AT
namespace AT
open PySem PySem.Spec PyProof.Rows L2 SX
section
variable {P : Program} {w : World} {K : PySem.W.Frag} {mg : Str → Option Value} {base : Heap}
def pcF (x : V) : List (Str × V) := [("tree", x)]
/-- v is a piece with the tree t -/
def PcA (K : PySem.W.Frag) (C CM : Addr) (H : Hp) (v : V) (t : Tr) : Prop := ∃ a dx x, v = .ref a ∧ H a = some (.ins C dx (pcF x)) ∧ TreeAt K CM H x t
theorem PcA.up {C CM : Addr} {H H' : Hp} {v : V} {t : Tr} (e : Ext H H') (h : PcA K C CM H v t) : PcA K C CM H' v t := by
  obtain ⟨a, dx, x, rfl, z, ta⟩ := h
  exact ⟨a, dx, x, rfl, e _ _ z, ta.lift e⟩
def spPc0 (C : Addr) : Sp := fun vs H Q _ => ∃ (x dx : Addr) (tv : V), vs = [.ref x, tv] ∧ H x = some (.ins C dx []) ∧ Q .non (upd H x (.ins C dx (pcF tv)))
theorem ok_Piece___init__ (T : Tx K mg) : FnOk P w K mg base CX0 1 T.a_Piece___init__ T.d_Piece___init__ ["self", "tree"] (spPc0 T.C_Piece) := by
  refine T.F_Piece___init__.ok sc_Piece___init__ (fun vs H Q E h => ?_) (fun cdv A outer s H vs Q E hr h => ?_)
  · obtain ⟨x, dx, tv, rfl, _⟩ := h
    rfl
  · obtain ⟨x, dx, tv, rfl, hx, k⟩ := h
    refine ⟨_, ((pss_one (ps_fld (pv 0) (pv 1) rfl))), ?_⟩
    walk_at "tx"
    exact ⟨x, _, dx, [], rfl, hx, T.o_Piece.cl, T.na_Piece_tree, by decide, k⟩
theorem w_piece {C CM : Addr} {tv : V} {t : Tr} {dvs : List V} {H : Hp} {Q : VK} {E : XK} (e0 : dvs = []) (ta : TreeAt K CM H tv t) (k : ∀ p H', Ext H H' → PcA K C CM H' (.ref p) t → Q (.ref p) H') : rMakeS C (spPc0 C) dvs E [tv] H Q := by
  subst e0
  intro x dx nx ndx ne
  refine ⟨x, dx, tv, rfl, upd_same, rfl, ?_⟩
  have e : Ext H (upd (upd (upd H dx (.own x)) x (.ins C dx [])) x (.ins C dx (pcF tv))) := Ext.mut (Ext.mut (Ext.new ndx) nx) nx
  exact k x _ e ⟨x, dx, tv, rfl, upd_same, ta.lift e⟩
theorem w_tree {T : Tx K mg} {CM : Addr} {H : Hp} {Q : VK} {v : V} {t : Tr} (h : PcA K T.C_Piece CM H v t) (k : ∀ x, TreeAt K CM H x t → Q x H) : rFld K "tree" v H Q := by
  obtain ⟨a, dx, x, rfl, z, ta⟩ := h
  exact ⟨a, _, dx, _, x, rfl, z, T.o_Piece.cl, T.na_Piece_tree, rfl, k x ta⟩
theorem PcA.ty {T : Tx K mg} {CM : Addr} {H : Hp} {v : V} {t : Tr} (h : PcA K T.C_Piece CM H v t) : TyX K H v (.ref T.C_Piece) := by
  obtain ⟨a, dx, x, rfl, z, _⟩ := h
  exact T.o_Piece.ty z
def sp_or (K : PySem.W.Frag) (C CM : Addr) : Sp := fun vs H Q _ => ∃ (v y : V) (a b : Tr), vs = [v, y] ∧ PcA K C CM H v a ∧ PcA K C CM H y b ∧ ∀ p H', Ext H H' → PcA K C CM H' (.ref p) (.sgn 124 a b) → Q (.ref p) H'
theorem ok_Piece___or__ (T : Tx K mg) : FnOk P w K mg base CX0 3 T.a_Piece___or__ T.d_Piece___or__ ["self", "other"] (sp_or K T.C_Piece T.C_Moment) := by
  refine T.F_Piece___or__.ok sc_Piece___or__ (fun vs H Q E h => ?_) (fun cdv A outer s H vs Q E hr h => ?_)
  · obtain ⟨v, y, a, b, rfl, _⟩ := h
    rfl
  · obtain ⟨v, y, a, b, rfl, hv, hy, k⟩ := h
    have G_Piece___init__ : FnOk P w K mg base CX0 1 T.a_Piece___init__ T.d_Piece___init__ ["self", "tree"] (spPc0 T.C_Piece) := ok_Piece___init__ T
    have hr_Piece___init__ : Room 2 _ := hr.mono (by decide)
    refine ⟨_, ((pss_cons (ps_if (pt_not (pt_val (pe_callB call_isi (by rfl) T.n_isinstance boot_isinstance (pa_cons (pv 1) (pa_cons (pe_glob (v := .ref T.C_Piece) rfl T.g_Piece rfl) pa_nil))))) (pss_one ps_never) pss_nil)
 (pss_one (ps_ret (pe_makeR T.M_Piece G_Piece___init__ hr_Piece___init__ rfl T.g_Piece T.b_Piece___init__ .nil pass0 (pa_cons (pe_tup (pa_cons (pe_strS (l := [124]) (by decide +kernel)) (pa_cons (pe_fld (pv 0) rfl) (pa_cons (pe_fld (pv 1) rfl) pa_nil)))) pa_nil)))))), ?_⟩
    walk_at "tx"
    refine w_isi (.own _) hy.ty kit_self ?_
    walk_at "tx"
    refine w_tree hv fun x hx => ?_
    walk_at "tx"
    refine w_tree hy fun x2 hx2 => ?_
    walk_at "tx"
    refine n_tup (by show 3 ≤ 100000; decide) fun p1 H1 np1 e1 u1 => ?_
    walk_at "tx"
    exact w_piece rfl (.sgn (by decide) (SqT.of u1) (hx.lift e1) (hx2.lift e1)) fun p H2 e2 m => k p H2 (e1.t e2) m
def sp_sub (K : PySem.W.Frag) (C CM : Addr) : Sp := fun vs H Q _ => ∃ (v y : V) (a b : Tr), vs = [v, y] ∧ PcA K C CM H v a ∧ PcA K C CM H y b ∧ ∀ p H', Ext H H' → PcA K C CM H' (.ref p) (.sgn 45 a b) → Q (.ref p) H'
theorem ok_Piece___sub__ (T : Tx K mg) : FnOk P w K mg base CX0 3 T.a_Piece___sub__ T.d_Piece___sub__ ["self", "other"] (sp_sub K T.C_Piece T.C_Moment) := by
  refine T.F_Piece___sub__.ok sc_Piece___sub__ (fun vs H Q E h => ?_) (fun cdv A outer s H vs Q E hr h => ?_)
  · obtain ⟨v, y, a, b, rfl, _⟩ := h
    rfl
  · obtain ⟨v, y, a, b, rfl, hv, hy, k⟩ := h
    have G_Piece___init__ : FnOk P w K mg base CX0 1 T.a_Piece___init__ T.d_Piece___init__ ["self", "tree"] (spPc0 T.C_Piece) := ok_Piece___init__ T
    have hr_Piece___init__ : Room 2 _ := hr.mono (by decide)
    refine ⟨_, ((pss_cons (ps_if (pt_not (pt_val (pe_callB call_isi (by rfl) T.n_isinstance boot_isinstance (pa_cons (pv 1) (pa_cons (pe_glob (v := .ref T.C_Piece) rfl T.g_Piece rfl) pa_nil))))) (pss_one ps_never) pss_nil)
 (pss_one (ps_ret (pe_makeR T.M_Piece G_Piece___init__ hr_Piece___init__ rfl T.g_Piece T.b_Piece___init__ .nil pass0 (pa_cons (pe_tup (pa_cons (pe_strS (l := [45]) (by decide +kernel)) (pa_cons (pe_fld (pv 0) rfl) (pa_cons (pe_fld (pv 1) rfl) pa_nil)))) pa_nil)))))), ?_⟩
    walk_at "tx"
    refine w_isi (.own _) hy.ty kit_self ?_
    walk_at "tx"
    refine w_tree hv fun x hx => ?_
    walk_at "tx"
    refine w_tree hy fun x2 hx2 => ?_
    walk_at "tx"
    refine n_tup (by show 3 ≤ 100000; decide) fun p1 H1 np1 e1 u1 => ?_
    walk_at "tx"
    exact w_piece rfl (.sgn (by decide) (SqT.of u1) (hx.lift e1) (hx2.lift e1)) fun p H2 e2 m => k p H2 (e1.t e2) m
def sp_neg (K : PySem.W.Frag) (C CM : Addr) : Sp := fun vs H Q _ => ∃ (v : V) (a : Tr), vs = [v] ∧ PcA K C CM H v a ∧ ∀ p H', Ext H H' → PcA K C CM H' (.ref p) (.mirror a) → Q (.ref p) H'
theorem ok_Piece___neg__ (T : Tx K mg) : FnOk P w K mg base CX0 3 T.a_Piece___neg__ T.d_Piece___neg__ ["self"] (sp_neg K T.C_Piece T.C_Moment) := by
  refine T.F_Piece___neg__.ok sc_Piece___neg__ (fun vs H Q E h => ?_) (fun cdv A outer s H vs Q E hr h => ?_)
  · obtain ⟨v, a, rfl, _⟩ := h
    rfl
  · obtain ⟨v, a, rfl, hv, k⟩ := h
    have G_Piece___init__ : FnOk P w K mg base CX0 1 T.a_Piece___init__ T.d_Piece___init__ ["self", "tree"] (spPc0 T.C_Piece) := ok_Piece___init__ T
    have hr_Piece___init__ : Room 2 _ := hr.mono (by decide)
    refine ⟨_, ((pss_one (ps_ret (pe_makeR T.M_Piece G_Piece___init__ hr_Piece___init__ rfl T.g_Piece T.b_Piece___init__ .nil pass0 (pa_cons (pe_tup (pa_cons (pe_strS (l := [109, 105, 114, 114, 111, 114]) (by decide +kernel)) (pa_cons (pe_fld (pv 0) rfl) pa_nil))) pa_nil))))), ?_⟩
    walk_at "tx"
    refine w_tree hv fun x hx => ?_
    walk_at "tx"
    refine n_tup (by show 2 ≤ 100000; decide) fun p1 H1 np1 e1 u1 => ?_
    walk_at "tx"
    exact w_piece rfl (.mirror (SqT.of u1) (hx.lift e1)) fun p H2 e2 m => k p H2 (e1.t e2) m
def sp_addI (K : PySem.W.Frag) (C CM : Addr) : Sp := fun vs H Q _ => ∃ (v : V) (i : Int) (a : Tr), vs = [v, .int i] ∧ PcA K C CM H v a ∧ ∀ p H', Ext H H' → PcA K C CM H' (.ref p) (.up a i) → Q (.ref p) H'
theorem ok_Piece___add__ (T : Tx K mg) : FnOk P w K mg base CX0 3 T.a_Piece___add__ T.d_Piece___add__ ["self", "other"] (sp_addI K T.C_Piece T.C_Moment) := by
  refine T.F_Piece___add__.ok sc_Piece___add__ (fun vs H Q E h => ?_) (fun cdv A outer s H vs Q E hr h => ?_)
  · obtain ⟨v, i, a, rfl, _⟩ := h
    rfl
  · obtain ⟨v, i, a, rfl, hv, k⟩ := h
    have G_Piece___init__ : FnOk P w K mg base CX0 1 T.a_Piece___init__ T.d_Piece___init__ ["self", "tree"] (spPc0 T.C_Piece) := ok_Piece___init__ T
    have hr_Piece___init__ : Room 2 _ := hr.mono (by decide)
    refine ⟨_, ((pss_cons (ps_if (pt_not (pt_val (pe_callB call_isi (by rfl) T.n_isinstance boot_isinstance (pa_cons (pv 1) (pa_cons (pe_bltn (v := .ty "int") rfl T.n_int boot_int rfl) pa_nil))))) (pss_one ps_never) pss_nil)
 (pss_one (ps_ret (pe_makeR T.M_Piece G_Piece___init__ hr_Piece___init__ rfl T.g_Piece T.b_Piece___init__ .nil pass0 (pa_cons (pe_tup (pa_cons (pe_strS (l := [117, 112]) (by decide +kernel)) (pa_cons (pe_fld (pv 0) rfl) (pa_cons (pv 1) pa_nil)))) pa_nil)))))), ?_⟩
    walk_at "tx"
    refine w_tree hv fun x hx => ?_
    walk_at "tx"
    refine n_tup (by show 3 ≤ 100000; decide) fun p1 H1 np1 e1 u1 => ?_
    walk_at "tx"
    exact w_piece rfl (.up (SqT.of u1) (hx.lift e1)) fun p H2 e2 m => k p H2 (e1.t e2) m
def spShiftT (K : PySem.W.Frag) (CM : Addr) : Sp := fun vs H Q _ => ∃ (v y : V) (t : Tr) (q : Rat), vs = [v, y] ∧ TreeAt K CM H v t ∧ Opd 3900 CM H y q ∧ ∀ p H', Ext H H' → TreeAt K CM H' (.ref p) (.shift t q) → Q (.ref p) H'
theorem ok_shift_tree (T : Tx K mg) : FnOk P w K mg base CX0 6 T.a_shift_tree T.d_shift_tree ["tree", "time"] (spShiftT K T.C_Moment) := by
  refine T.F_shift_tree.ok sc_shift_tree (fun vs H Q E h => ?_) (fun cdv A outer s H vs Q E hr h => ?_)
  · obtain ⟨v, y, t, q, rfl, _⟩ := h
    rfl
  · obtain ⟨v, y, t, q, rfl, hv, hy, k⟩ := h
    have G_as_moment : FnOk P w K mg base CX0 5 T.a_as_moment T.d_as_moment ["value"] (spAsM T.C_Moment) := ok_as_moment T
    have hr_as_moment : Room 5 _ := hr
    refine ⟨_, ((pss_one (ps_ret (pe_tup (pa_cons (pe_strS (l := [115, 104, 105, 102, 116]) (by decide +kernel)) (pa_cons (pv 0) (pa_cons (pe_call G_as_moment hr_as_moment rfl T.g_as_moment T.F_as_moment.kp T.b_as_moment .nil pass0 (pa_cons (pv 1) pa_nil)) pa_nil))))))), ?_⟩
    walk_at "tx"
    refine c_asM hy fun p0 H1 e1 m0 => ?_
    walk_at "tx"
    refine n_tup (by show 3 ≤ 100000; decide) fun p1 H2 np1 e2 u1 => ?_
    exact k p1 H2 (e1.t e2) (.shift (SqT.of u1) ((hv.lift e1).lift e2) (m0.up e2))
theorem c_shiftT {CM : Addr} {v y : V} {t : Tr} {q : Rat} {H : Hp} {Q : VK} {E : XK} (hv : TreeAt K CM H v t) (hy : Opd 3900 CM H y q) (k : ∀ p H', Ext H H' → TreeAt K CM H' (.ref p) (.shift t q) → Q (.ref p) H') : spShiftT K CM [v, y] H Q E := ⟨v, y, t, q, rfl, hv, hy, k⟩
def sp_lshift (K : PySem.W.Frag) (C CM : Addr) : Sp := fun vs H Q _ => ∃ (v : V) (i : Int) (a : Tr), vs = [v, .int i] ∧ PcA K C CM H v a ∧ Bn 3900 i ∧ ∀ p H', Ext H H' → PcA K C CM H' (.ref p) (.shift a (i : Rat)) → Q (.ref p) H'
theorem ok_Piece___lshift__ (T : Tx K mg) : FnOk P w K mg base CX0 7 T.a_Piece___lshift__ T.d_Piece___lshift__ ["self", "other"] (sp_lshift K T.C_Piece T.C_Moment) := by
  refine T.F_Piece___lshift__.ok sc_Piece___lshift__ (fun vs H Q E h => ?_) (fun cdv A outer s H vs Q E hr h => ?_)
  · obtain ⟨v, i, a, rfl, _⟩ := h
    rfl
  · obtain ⟨v, i, a, rfl, hv, bi, k⟩ := h
    have G_shift_tree : FnOk P w K mg base CX0 6 T.a_shift_tree T.d_shift_tree ["tree", "time"] (spShiftT K T.C_Moment) := ok_shift_tree T
    have hr_shift_tree : Room 6 _ := hr
    have G_Piece___init__ : FnOk P w K mg base CX0 1 T.a_Piece___init__ T.d_Piece___init__ ["self", "tree"] (spPc0 T.C_Piece) := ok_Piece___init__ T
    have hr_Piece___init__ : Room 2 _ := hr.mono (by decide)
    refine ⟨_, ((pss_cons (ps_if (pt_not (pt_val (pe_callB call_isiT (by rfl) T.n_isinstance boot_isinstance (pa_cons (pv 1) (pa_cons (pe_tup (pa_cons (pe_bltn (v := .ty "int") rfl T.n_int boot_int rfl) (pa_cons (pe_glob (v := .ref T.C_Moment) rfl T.g_Moment rfl) pa_nil))) pa_nil))))) (pss_one ps_never) pss_nil)
 (pss_one (ps_ret (pe_makeR T.M_Piece G_Piece___init__ hr_Piece___init__ rfl T.g_Piece T.b_Piece___init__ .nil pass0 (pa_cons (pe_call G_shift_tree hr_shift_tree rfl T.g_shift_tree T.F_shift_tree.kp T.b_shift_tree .nil pass0 (pa_cons (pe_fld (pv 0) rfl) (pa_cons (pv 1) pa_nil))) pa_nil)))))), ?_⟩
    walk_at "tx"
    refine n_tup (by show 2 ≤ 100000; decide) fun p0 H1 np0 e1 u1 => ?_
    walk_at "tx"
    refine w_isiT u1 (.cons (.ty "int") (.cons (.own _) .nil)) (.base (.int i)) (kitAny_hit (kit_ty (by decide +kernel))) ?_
    walk_at "tx"
    refine w_tree (hv.up e1) fun x hx => ?_
    walk_at "tx"
    refine c_shiftT hx (Opd.int bi) fun p1 H2 e2 ts => ?_
    walk_at "tx"
    exact w_piece rfl ts fun p H3 e3 m => k p H3 ((e1.t e2).t e3) m
def sp_only (K : PySem.W.Frag) (C CM : Addr) : Sp := fun vs H Q _ => ∃ (v : V) (b e n : Int) (a : Tr), vs = [v, .int b, .int e, .int n] ∧ PcA K C CM H v a ∧ Bn 3900 b ∧ Bn 3900 e ∧ 1 ≤ n ∧ 0 ≤ b ∧ b < e ∧ e ≤ n ∧ ∀ p H', Ext H H' → PcA K C CM H' (.ref p) (.only a (b : Rat) (e : Rat) n) → Q (.ref p) H'
theorem ok_Piece_only (T : Tx K mg) : FnOk P w K mg base CX0 6 T.a_Piece_only T.d_Piece_only ["self", "begin", "end", "rounds"] (sp_only K T.C_Piece T.C_Moment) := by
  refine T.F_Piece_only.ok sc_Piece_only (fun vs H Q E h => ?_) (fun cdv A outer s H vs Q E hr h => ?_)
  · obtain ⟨v, b, e, n, a, rfl, _⟩ := h
    rfl
  · obtain ⟨v, b, e, n, a, rfl, hv, bb, be, h1, h2, h3, h4, k⟩ := h
    have G_as_moment : FnOk P w K mg base CX0 5 T.a_as_moment T.d_as_moment ["value"] (spAsM T.C_Moment) := ok_as_moment T
    have hr_as_moment : Room 5 _ := hr
    have G_Piece___init__ : FnOk P w K mg base CX0 1 T.a_Piece___init__ T.d_Piece___init__ ["self", "tree"] (spPc0 T.C_Piece) := ok_Piece___init__ T
    have hr_Piece___init__ : Room 2 _ := hr.mono (by decide)
    refine ⟨_, ((pss_cons (ps_if (pt_not (PW.pt (pw_and (pt_cmpR op_ge (pv 3) pe_int (nomark _)) (pw_and (pt_cmpR op_ge (pv 1) pe_int (nomark _)) (pw_and (pt_cmpR op_lt (pv 1) (pv 2) (nomark _)) (pw_and1 (pt_cmpR op_le (pv 2) (pv 3) (nomark _)))))))) (pss_one ps_never) pss_nil)
 (pss_one (ps_ret (pe_makeR T.M_Piece G_Piece___init__ hr_Piece___init__ rfl T.g_Piece T.b_Piece___init__ .nil pass0 (pa_cons (pe_tup (pa_cons (pe_strS (l := [111, 110, 108, 121]) (by decide +kernel)) (pa_cons (pe_fld (pv 0) rfl) (pa_cons (pe_call G_as_moment hr_as_moment rfl T.g_as_moment T.F_as_moment.kp T.b_as_moment .nil pass0 (pa_cons (pv 1) pa_nil)) (pa_cons (pe_call G_as_moment hr_as_moment rfl T.g_as_moment T.F_as_moment.kp T.b_as_moment .nil pass0 (pa_cons (pv 2) pa_nil)) (pa_cons (pv 3) pa_nil)))))) pa_nil)))))), ?_⟩
    walk_at "tx"
    refine i_dec (fun _ => ?_) (fun z => absurd h1 z)
    walk_at "tx"
    refine i_dec (fun _ => ?_) (fun z => absurd h2 z)
    walk_at "tx"
    refine i_dec (fun _ => ?_) (fun z => absurd h3 z)
    walk_at "tx"
    refine i_ndec (fun _ => ?_) (fun z => absurd h4 z)
    walk_at "tx"
    refine w_tree hv fun x hx => ?_
    walk_at "tx"
    refine c_asM (Opd.int bb) fun p0 H1 e1 m0 => ?_
    walk_at "tx"
    refine c_asM (Opd.int be) fun p1 H2 e2 m1 => ?_
    walk_at "tx"
    refine n_tup (by show 5 ≤ 100000; decide) fun p2 H3 np2 e3 u3 => ?_
    walk_at "tx"
    exact w_piece rfl (.only (SqT.of u3) (((hx.lift e1).lift e2).lift e3) ((m0.up e2).up e3) (m1.up e3)) fun p H4 e4 m => k p H4 (((e1.t e2).t e3).t e4) m
def sp_every (K : PySem.W.Frag) (C CM : Addr) : Sp := fun vs H Q _ => ∃ (v y : V) (s f : Int) (a b : Tr), vs = [v, .int s, y, .int f] ∧ PcA K C CM H v a ∧ PcA K C CM H y b ∧ 1 ≤ s ∧ ∀ p H', Ext H H' → PcA K C CM H' (.ref p) (.every a b s f) → Q (.ref p) H'
theorem ok_Piece_every (T : Tx K mg) : FnOk P w K mg base CX0 3 T.a_Piece_every T.d_Piece_every ["self", "step", "other", "first"] (sp_every K T.C_Piece T.C_Moment) := by
  refine T.F_Piece_every.ok sc_Piece_every (fun vs H Q E h => ?_) (fun cdv A outer s H vs Q E hr h => ?_)
  · obtain ⟨v, y, s, f, a, b, rfl, _⟩ := h
    rfl
  · obtain ⟨v, y, sp, f, a, b, rfl, hv, hy, h1, k⟩ := h
    have G_Piece___init__ : FnOk P w K mg base CX0 1 T.a_Piece___init__ T.d_Piece___init__ ["self", "tree"] (spPc0 T.C_Piece) := ok_Piece___init__ T
    have hr_Piece___init__ : Room 2 _ := hr.mono (by decide)
    refine ⟨_, ((pss_cons (ps_if (pt_cmpR op_lt (pv 1) pe_int (nomark _)) (pss_one ps_never) pss_nil)
 (pss_one (ps_ret (pe_makeR T.M_Piece G_Piece___init__ hr_Piece___init__ rfl T.g_Piece T.b_Piece___init__ .nil pass0 (pa_cons (pe_tup (pa_cons (pe_strS (l := [101, 118, 101, 114, 121]) (by decide +kernel)) (pa_cons (pe_fld (pv 0) rfl) (pa_cons (pe_fld (pv 2) rfl) (pa_cons (pv 1) (pa_cons (pv 3) pa_nil)))))) pa_nil)))))), ?_⟩
    walk_at "tx"
    refine i_dec (fun z => absurd h1 (by omega)) (fun _ => ?_)
    walk_at "tx"
    refine w_tree hv fun x hx => ?_
    walk_at "tx"
    refine w_tree hy fun x2 hx2 => ?_
    walk_at "tx"
    refine n_tup (by show 5 ≤ 100000; decide) fun p1 H1 np1 e1 u1 => ?_
    walk_at "tx"
    exact w_piece rfl (.every (SqT.of u1) (hx.lift e1) (hx2.lift e1)) fun p H2 e2 m => k p H2 (e1.t e2) m
def sp_nth (K : PySem.W.Frag) (C CM : Addr) : Sp := fun vs H Q _ => ∃ (v : V) (i s : Int) (a : Tr), vs = [v, .int i, .int s] ∧ PcA K C CM H v a ∧ 1 ≤ s ∧ ∀ p H', Ext H H' → PcA K C CM H' (.ref p) (.nth a i s) → Q (.ref p) H'
theorem ok_Piece_nth (T : Tx K mg) : FnOk P w K mg base CX0 3 T.a_Piece_nth T.d_Piece_nth ["self", "index", "step"] (sp_nth K T.C_Piece T.C_Moment) := by
  refine T.F_Piece_nth.ok sc_Piece_nth (fun vs H Q E h => ?_) (fun cdv A outer s H vs Q E hr h => ?_)
  · obtain ⟨v, i, s, a, rfl, _⟩ := h
    rfl
  · obtain ⟨v, i, sp, a, rfl, hv, h1, k⟩ := h
    have G_Piece___init__ : FnOk P w K mg base CX0 1 T.a_Piece___init__ T.d_Piece___init__ ["self", "tree"] (spPc0 T.C_Piece) := ok_Piece___init__ T
    have hr_Piece___init__ : Room 2 _ := hr.mono (by decide)
    refine ⟨_, ((pss_cons (ps_if (pt_cmpR op_lt (pv 2) pe_int (nomark _)) (pss_one ps_never) pss_nil)
 (pss_one (ps_ret (pe_makeR T.M_Piece G_Piece___init__ hr_Piece___init__ rfl T.g_Piece T.b_Piece___init__ .nil pass0 (pa_cons (pe_tup (pa_cons (pe_strS (l := [110, 116, 104]) (by decide +kernel)) (pa_cons (pe_fld (pv 0) rfl) (pa_cons (pv 1) (pa_cons (pv 2) pa_nil))))) pa_nil)))))), ?_⟩
    walk_at "tx"
    refine i_dec (fun z => absurd h1 (by omega)) (fun _ => ?_)
    walk_at "tx"
    refine w_tree hv fun x hx => ?_
    walk_at "tx"
    refine n_tup (by show 4 ≤ 100000; decide) fun p1 H1 np1 e1 u1 => ?_
    walk_at "tx"
    exact w_piece rfl (.nth (SqT.of u1) (hx.lift e1)) fun p H2 e2 m => k p H2 (e1.t e2) m
def sp_sil (K : PySem.W.Frag) (C CM : Addr) : Sp := fun vs H Q _ => vs = [] ∧ ∀ p H', Ext H H' → PcA K C CM H' (.ref p) .sil → Q (.ref p) H'
theorem ok_Piece_silence (T : Tx K mg) : FnOk P w K mg base CX0 3 T.a_Piece_silence T.d_Piece_silence [] (sp_sil K T.C_Piece T.C_Moment) := by
  refine T.F_Piece_silence.ok sc_Piece_silence (fun vs H Q E h => ?_) (fun cdv A outer s H vs Q E hr h => ?_)
  · obtain ⟨rfl, _⟩ := h
    rfl
  · obtain ⟨rfl, k⟩ := h
    have G_Piece___init__ : FnOk P w K mg base CX0 1 T.a_Piece___init__ T.d_Piece___init__ ["self", "tree"] (spPc0 T.C_Piece) := ok_Piece___init__ T
    have hr_Piece___init__ : Room 2 _ := hr.mono (by decide)
    refine ⟨_, ((pss_one (ps_ret (pe_makeR T.M_Piece G_Piece___init__ hr_Piece___init__ rfl T.g_Piece T.b_Piece___init__ .nil pass0 (pa_cons (pe_tup (pa_cons (pe_strS (l := [115, 105, 108, 101, 110, 99, 101]) (by decide +kernel)) pa_nil)) pa_nil))))), ?_⟩
    walk_at "tx"
    refine n_tup (by show 1 ≤ 100000; decide) fun p1 H1 np1 e1 u1 => ?_
    walk_at "tx"
    exact w_piece rfl (.sil (SqT.of u1)) fun p H2 e2 m => k p H2 (e1.t e2) m
end
end AT
namespace AT
open PySem PySem.Spec PyProof.Rows L2 SX
/-- a new dict is locked as soon as it is there -/
def tLockA (t : TE) : TE := fun σ H Q => t σ H fun x H1 => ∃ d u, x = .ref d ∧ H1 d = some u ∧ Mut (some u) ∧ ∀ od, Q x (upd H1 d (.frz od u))
theorem pe_lockA {X : Cx} {e : Expr} {t : TE} (h : PE X e t) : PE X e (tLockA t) := by
  refine ⟨fun pins s σ H Q I hw => ?_⟩
  refine thn (h.run pins s σ H _ I hw) fun v s1 ⟨x, H1, I1, r, d, u, ex, hd, mu, q⟩ => ?_
  obtain ⟨od, I2⟩ := I1.lock hd mu
  exact ⟨x, _, I2, r, q od⟩
def rStrT : List V → Hp → VK → Prop := fun xs H Q => ∃ a, xs = [.str a] ∧ Q (.str a) H
theorem call_strT {X : Cx} : CallR X (.type "str") rStrT := SkE.call_str_str
theorem w_strT {a : Str} {H : Hp} {Q : VK} (h : Q (.str a) H) : rStrT [.str a] H Q := ⟨a, rfl, h⟩
theorem dc_list {K : PySem.W.Frag} {a : Addr} {xs : List V} {g : TG} {tt : TT} {tk tv : TE} {vs : List Nat} {σ : L2.St} {H1 : Hp} {D : Addr} {Qd : Hp → Prop} (Pv : Nat → Hp → Prop) (h0 : Pv 0 (upd H1 D (.dK []))) (hl : ∀ i H, i ≤ xs.length → Pv i H → SqL K H a xs)
    (hs : ∀ i x H, xs[i]? = some x → Pv i H → g x (wipe σ vs) H fun σ2 H2 => wipe σ2 vs = wipe σ vs ∧ tt σ2 H2 fun b H3 =>
      if b = true then tk σ2 H3 fun y H4 => tv σ2 H4 fun z H5 => ∃ kvs k, y = kV k ∧ H5 D = some (.dK kvs) ∧ kvs.length < sizeLine ∧ Pv (i + 1) (upd H5 D (.dK (putK kvs k z))) else Pv (i + 1) H3) (hd : ∀ H, Pv xs.length H → Qd H) :
    ∃ W : Nat → Nat → Hp → Prop, (∃ m, W 0 m (upd H1 D (.dK []))) ∧ ∀ i m H, W i m H →
      ((Itl K a).stop i H ∧ Qd H) ∨ ((Itl K a).go i H ∧ ∃ Nx : Hp → Prop, (∀ H', Nx H' → ∃ m', m' < m ∧ W (i + 1) m' H') ∧ ∀ x H', (Itl K a).yld i H x H' → g x (wipe σ vs) H' fun σ2 H2 => wipe σ2 vs = wipe σ vs ∧ tt σ2 H2 fun b H3 =>
        if b = true then tk σ2 H3 fun y H4 => tv σ2 H4 fun z H5 => ∃ kvs k, y = kV k ∧ H5 D = some (.dK kvs) ∧ kvs.length < sizeLine ∧ Nx (upd H5 D (.dK (putK kvs k z))) else Nx H3) := by
  refine ⟨fun i m H => m = xs.length - i ∧ i ≤ xs.length ∧ Pv i H, ⟨xs.length, by simp, Nat.zero_le _, h0⟩, ?_⟩
  rintro i m H ⟨rfl, hi, p⟩
  have q := hl i H hi p
  by_cases hlt : i < xs.length
  · refine .inr ⟨⟨xs, xs[i], q, by simp [hlt]⟩, Pv (i + 1), fun H' p' => ⟨xs.length - (i + 1), by omega, rfl, hlt, p'⟩, fun x H' y => ?_⟩
    obtain ⟨e, y⟩ := y
    subst e
    exact hs i x _ (y xs q) p
  · have e : i = xs.length := by omega
    subst e
    exact .inl ⟨⟨xs, q, Nat.le_refl _⟩, hd H p⟩
theorem lc_keys {d : Addr} {o : Obj} {kvs : List (Key × V)} {g : TG} {tt : TT} {te : TE} {vs : List Nat} {σ : L2.St} {H1 : Hp} {D : Addr} {Qd : Hp → Prop} (Pv : Nat → Hp → Prop) (h0 : Pv 0 (upd H1 D (.lst []))) (hl : ∀ i H, i ≤ kvs.length → Pv i H → H d = some (.frz o (.dK kvs)))
    (hs : ∀ i k v H, kvs[i]? = some (k, v) → Pv i H → g (kV k) (wipe σ vs) H fun σ2 H2 => wipe σ2 vs = wipe σ vs ∧ tt σ2 H2 fun b H3 =>
      if b = true then te σ2 H3 fun y H4 => ∃ acc, H4 D = some (.lst acc) ∧ acc.length < sizeLine ∧ Pv (i + 1) (upd H4 D (.lst (acc ++ [y]))) else Pv (i + 1) H3) (hd : ∀ H, Pv kvs.length H → Qd H) :
    ∃ W : Nat → Nat → Hp → Prop, (∃ m, W 0 m (upd H1 D (.lst []))) ∧ ∀ i m H, W i m H →
      ((Itk d o kvs).stop i H ∧ Qd H) ∨ ((Itk d o kvs).go i H ∧ ∃ Nx : Hp → Prop, (∀ H', Nx H' → ∃ m', m' < m ∧ W (i + 1) m' H') ∧ ∀ x H', (Itk d o kvs).yld i H x H' → g x (wipe σ vs) H' fun σ2 H2 => wipe σ2 vs = wipe σ vs ∧ tt σ2 H2 fun b H3 =>
        if b = true then te σ2 H3 fun y H4 => ∃ acc, H4 D = some (.lst acc) ∧ acc.length < sizeLine ∧ Nx (upd H4 D (.lst (acc ++ [y]))) else Nx H3) := by
  refine ⟨fun i m H => m = kvs.length - i ∧ i ≤ kvs.length ∧ Pv i H, ⟨kvs.length, by simp, Nat.zero_le _, h0⟩, ?_⟩
  rintro i m H ⟨rfl, hi, p⟩
  have q := hl i H hi p
  by_cases hlt : i < kvs.length
  · refine .inr ⟨⟨q, hlt⟩, Pv (i + 1), fun H' p' => ⟨kvs.length - (i + 1), by omega, rfl, hlt, p'⟩, fun x H' y => ?_⟩
    obtain ⟨e, k, v, hk, ex⟩ := y
    subst e
    subst ex
    exact hs i k v _ hk p
  · have e : i = kvs.length := by omega
    subst e
    exact .inl ⟨⟨q, Nat.le_refl _⟩, hd H p⟩
theorem keys_put1 {kvs : List (Key × V)} {k : Key} {v : V} (h : k ∈ kvs.map (·.1)) : (putK kvs k v).map (·.1) = kvs.map (·.1) := by
  have h' : (kvs.any fun kv => decide (kv.1 = k)) = true := by
    obtain ⟨q, hq, e⟩ := List.mem_map.mp h
    exact List.any_eq_true.mpr ⟨q, hq, by simpa using e⟩
  unfold putK
  rw [if_pos h', List.map_map]
  refine List.map_congr_left fun q _ => ?_
  show (if q.1 = k then (q.1, v) else q).1 = q.1
  split <;> rfl
theorem keys_put2 {kvs : List (Key × V)} {k : Key} {v : V} (h : ¬ k ∈ kvs.map (·.1)) : (putK kvs k v).map (·.1) = kvs.map (·.1) ++ [k] := by
  have h' : ¬ (kvs.any fun kv => decide (kv.1 = k)) = true := fun z => by
    obtain ⟨q, hq, e⟩ := List.any_eq_true.mp z
    exact h (List.mem_map.mpr ⟨q, hq, by simpa using e⟩)
  unfold putK
  rw [if_neg h', List.map_append]
  rfl
theorem w_iKeysA {td : TE} {σ : L2.St} {H : Hp} {R : It → Hp → Prop} (h : td σ H fun x H1 => ∃ d u, x = .ref d ∧ H1 d = some u ∧ Mut (some u) ∧ ∀ od, ∃ d' o, x = .ref d' ∧ ((∃ kvs, upd H1 d (.frz od u) d' = some (.frz o (.dK kvs)) ∧ R (Itk d' o kvs) (upd H1 d (.frz od u))) ∨ ∃ kvs, upd H1 d (.frz od u) d' = some (.frz o (.dT kvs)) ∧ R (Itkt d' o kvs) (upd H1 d (.frz od u)))) : iKeys (tLockA td) σ H R := h
theorem w_dc {wi : TI} {g : TG} {tt : TT} {tk tv : TE} {vs : List Nat} {σ : L2.St} {H : Hp} {Q : VK} (h : wi σ H fun J H1 => ∀ D, H1 D = none → ∃ W : Nat → Nat → Hp → Prop, (∃ m, W 0 m (upd H1 D (.dK []))) ∧ ∀ i m H, W i m H →
  (J.stop i H ∧ Q (.ref D) H) ∨ (J.go i H ∧ ∃ Nx : Hp → Prop, (∀ H', Nx H' → ∃ m', m' < m ∧ W (i + 1) m' H') ∧ ∀ x H', J.yld i H x H' → g x (wipe σ vs) H' fun σ2 H2 => wipe σ2 vs = wipe σ vs ∧ tt σ2 H2 fun b H3 =>
    if b = true then tk σ2 H3 fun y H4 => tv σ2 H4 fun z H5 => ∃ kvs k, y = kV k ∧ H5 D = some (.dK kvs) ∧ kvs.length < sizeLine ∧ Nx (upd H5 D (.dK (putK kvs k z))) else Nx H3)) : tDc wi g tt tk tv vs σ H Q := h
def az : List Nat := [97, 98, 99, 100, 101, 102, 103, 104, 105, 106, 107, 108, 109, 110, 111, 112, 113, 114, 115, 116, 117, 118, 119, 120, 121, 122]
def GoodName (l : List Nat) : Prop := 1 ≤ l.length ∧ l.length ≤ 8 ∧ l ≠ [115, 101, 108, 102] ∧ ∀ c ∈ l, c ∈ az
instance {l : List Nat} : Decidable (GoodName l) := inferInstanceAs (Decidable (_ ∧ _ ∧ _ ∧ _))
section
variable {P : Program} {w : World} {K : PySem.W.Frag} {mg : Str → Option Value} {base : Heap}
def spGood : Sp := fun vs H Q _ => ∃ l : List Nat, vs = [.str (S l)] ∧ l.length ≤ 5000 ∧ Q (.bl (decide (GoodName l))) H
theorem c_good {l : List Nat} {H : Hp} {Q : VK} {E : XK} (hl : l.length ≤ 5000) (k : Q (.bl (decide (GoodName l))) H) : spGood [.str (S l)] H Q E := ⟨l, rfl, hl, k⟩
theorem ok_good_name (T : Tx K mg) : FnOk P w K mg base CX0 1 T.a_good_name T.d_good_name ["name"] spGood := by
  refine T.F_good_name.ok sc_good_name (fun vs H Q E h => ?_) (fun cdv A outer s H vs Q E hr h => ?_)
  · obtain ⟨l, rfl, _⟩ := h
    rfl
  · obtain ⟨l, rfl, hl, k⟩ := h
    refine ⟨_, ((pss_cons (ps_if (PW.pt (pw_or (pt_cmpR op_lt (pe_callB call_lenT (by rfl) T.n_len PySem.boot_len (pa_cons (pv 0) pa_nil)) pe_int (nomark _)) (pw_or (pt_cmpR op_gt (pe_callB call_lenT (by rfl) T.n_len PySem.boot_len (pa_cons (pv 0) pa_nil)) pe_int (nomark _)) (pw_or1 (pt_cmpR op_eq (pv 0) (pe_strS (l := [115, 101, 108, 102]) (by decide +kernel)) (nomark _)))))) (pss_one (ps_ret pe_bl)) pss_nil)
 (pss_cons (ps_for PassesOwn.never rfl (pi_str (pv 0)) (pg_name (i := 1) sc_good_name.nd rfl (Or.inl rfl)) (pss_one (ps_if (pt_cmpR op_notInS (pv 1) (pe_glob rfl T.g_LETTERS T.v_LETTERS) (by rfl)) (pss_one (ps_ret pe_bl)) pss_nil)))
 (pss_one (ps_ret pe_bl))))), ?_⟩
    have no : ¬ GoodName l → Q (.bl false) H := fun n => by rw [decide_eq_false n] at k; exact k
    walk_at "tx"
    refine i_dec (fun c => ?_) (fun c0 => ?_)
    · walk_at "tx"
      exact no fun z => by have := z.1; omega
    walk_at "tx"
    refine i_dec (fun c => ?_) (fun c1 => ?_)
    · walk_at "tx"
      exact no fun z => by have := z.2.1; omega
    walk_at "tx"
    refine i_dec (fun c => ?_) (fun c2 => ?_)
    · walk_at "tx"
      exact no fun z => z.2.2.1 c
    walk_at "tx"
    refine ⟨S l, rfl, for_str (l := l) (fun i σ' H' => (∃ v, σ' = [some (.str (S l)), v]) ∧ H = H' ∧ ∀ j c, j < i → l[j]? = some c → c ∈ az) ⟨⟨_, rfl⟩, rfl, fun j c h => by omega⟩ ?_ ?_⟩
    · rintro i c σ' H' hi ⟨⟨v, rfl⟩, rfl, h⟩
      walk_at "tx"
      refine i_ndec (fun hc => ?_) (fun hc => ?_)
      · walk_at "tx"
        refine ⟨⟨_, rfl⟩, rfl, fun j d hj e => ?_⟩
        by_cases ej : j = i
        · subst ej
          rw [hi] at e
          cases e
          exact hc
        · exact h j d (by omega) e
      · walk_at "tx"
        exact no fun z => hc (z.2.2.2 c (List.mem_of_getElem? hi))
    · rintro σ' H' ⟨⟨v, rfl⟩, rfl, h⟩
      walk_at "tx"
      have g : GoodName l := ⟨by omega, by omega, c2, fun c hc => by
        obtain ⟨j, hj⟩ := List.mem_iff_getElem?.mp hc
        exact h j c (List.getElem?_eq_some_iff.mp hj).1 hj⟩
      rw [decide_eq_true g] at k
      exact k
theorem w_yes {σ : L2.St} {H : Hp} {QB : Bool → Hp → Prop} (h : QB true H) : tYes σ H QB := h
/-- an error of one value -/
def spErr1 (C : Addr) (f : Str) : Sp := fun vs H Q _ => ∃ (a : Addr) (x : V), vs = [.ref a, x] ∧ H a = some (exo a C none) ∧
  ∀ d H', H d = none → H' a = some (exo a C (some d)) → H' d = some (exd d [(f, x)]) → (∀ b o, H b = some o → b ≠ a → H' b = some o) → Q .non H'
theorem ok_NoName___init__ (T : Tx K mg) : FnOk P w K mg base CX0 1 T.a_NoName___init__ T.d_NoName___init__ ["self", "name"] (spErr1 T.C_NoName "name") := by
  refine T.F_NoName___init__.ok sc_NoName___init__ (fun vs H Q E h => ?_) (fun cdv A outer s H vs Q E hr h => ?_)
  · obtain ⟨a, x, rfl, _⟩ := h
    rfl
  · obtain ⟨a, x, rfl, ha, k⟩ := h
    refine ⟨_, ((pss_cons (ps_expr (pe_clsinit rfl T.g_AnytuneError T.rd_AnytuneError T.in_AnytuneError (pa_cons (pv 0) (pa_cons pe_str pa_nil))))
 (pss_one (ps_ost (pv 0) (pv 1))))), ?_⟩
    refine ⟨_, rfl, a, T.C_NoName, _, rfl, by decide, T.ox_NoName, ha, ?_⟩
    refine ⟨_, rfl, _, rfl, a, T.C_NoName, rfl, T.ox_NoName, T.na_NoName_name, .inl ⟨ha, fun dx nd ne => ?_⟩⟩
    refine k dx _ nd upd_same (by rw [upd_ne ne, upd_same]) fun b o e hb => ?_
    rw [upd_ne hb, upd_ne (ne_of_none e nd)]
    exact e
def spNamed (K : PySem.W.Frag) (C CM CE : Addr) : Sp := fun vs H Q E => ∃ l : List Nat, vs = [.str (S l)] ∧ l.length ≤ 5000 ∧ (GoodName l → ∀ p H', Ext H H' → PcA K C CM H' (.ref p) (.hole l) → Q (.ref p) H') ∧
  (¬ GoodName l → ∀ d H', H d = none → Ext H H' → H' d = some (.xd [("name", .str (S l))]) → E (.ref CE) (some d) H')
theorem ok_Piece_named (T : Tx K mg) : FnOk P w K mg base (L2.CX P w) 3 T.a_Piece_named T.d_Piece_named ["name"] (spNamed K T.C_Piece T.C_Moment T.C_NoName) := by
  refine T.F_Piece_named.okX sc_Piece_named (fun vs H Q E h => ?_) (fun cdv A outer s H vs Q E hr h => ?_)
  · obtain ⟨l, rfl, _⟩ := h
    rfl
  · obtain ⟨l, rfl, hl, k1, k2⟩ := h
    have G_good_name : FnOk P w K mg base CX0 1 T.a_good_name T.d_good_name ["name"] spGood := ok_good_name T
    have G_err : FnOk P w K mg base CX0 1 T.a_NoName___init__ T.d_NoName___init__ ["self", "name"] (spErr1 T.C_NoName "name") := ok_NoName___init__ T
    have G_Piece___init__ : FnOk P w K mg base CX0 1 T.a_Piece___init__ T.d_Piece___init__ ["self", "tree"] (spPc0 T.C_Piece) := ok_Piece___init__ T
    have hr_Piece___init__ : Room 2 _ := hr
    have hr2 : Room 2 _ := hr
    have hr_good_name : Room 1 _ := hr.mono (by decide)
    refine ⟨_, ((pss_cons (ps_if (pt_not (pt_val (pe_call G_good_name hr_good_name rfl T.g_good_name T.F_good_name.kp T.b_good_name .nil pass0 (pa_cons (pv 0) pa_nil)))) (pss_one (ps_raise rfl (takes_of rfl rfl rfl rfl) (pmk_oex T.ox_NoName T.m_NoName___init__.at_ (beq_iff_eq.mp T.m_NoName___init__.fn) G_err hr2 T.b_NoName___init__ .nil pass0 rfl T.g_NoName (pa_cons (pv 0) pa_nil)))) pss_nil)
 (pss_one (ps_ret (pe_makeR T.M_Piece G_Piece___init__ hr_Piece___init__ rfl T.g_Piece T.b_Piece___init__ .nil pass0 (pa_cons (pe_tup (pa_cons (pe_strS (l := [104, 111, 108, 101]) (by decide +kernel)) (pa_cons (pv 0) pa_nil))) pa_nil)))))), ?_⟩
    walk_at "tx"
    refine c_good hl ?_
    walk_at "tx"
    refine i_ndec (fun g => ?_) (fun g => ?_)
    · walk_at "tx"
      refine n_tup (by show 2 ≤ 100000; decide) fun p1 H1 np1 e1 u1 => ?_
      walk_at "tx"
      exact w_piece rfl (.hole (SqT.of u1)) fun p H2 e2 m => k1 g p H2 (e1.t e2) m
    · walk_at "tx"
      refine ⟨(by show 1 ≤ 1000; decide), fun a na => ⟨a, _, rfl, upd_same, fun d H' nd h1 h2 kp => ⟨rfl, d, _, h1, h2, Ext.fresh (Ext.new na) nd, ?_⟩⟩⟩
      have nd' : H d = none := Ext.fresh (Ext.new na) nd
      refine k2 g d _ nd' (fun q o e => ?_) upd_same
      rw [upd_ne (ne_of_none e nd'), del_ne (ne_of_none e na)]
      exact kp q o (by rw [upd_ne (ne_of_none e na)]; exact e) (ne_of_none e na)
def spHoles0 (K : PySem.W.Frag) (C CM : Addr) (d : Nat) : Sp := fun vs H Q _ => ∃ (v : V) (t : Tr), vs = [v] ∧ PcA K C CM H v t ∧ dep t ≤ d ∧ (names t).length < 64 ∧ ∀ (zs : List (List Nat)) p H', Ext H H' → H p = none → zs.Nodup → (∀ l, l ∈ zs ↔ l ∈ names t) → sortedS (zs.map S) = true → H' p = some (.lst (zs.map strV)) → Q (.ref p) H'
theorem ok_Piece_holes (T : Tx K mg) (hw : T.PR = w.params) (d : Nat) : FnOk P w K mg base CX0 (d + 3) T.a_Piece_holes T.d_Piece_holes ["self"] (spHoles0 K T.C_Piece T.C_Moment d) := by
  refine T.F_Piece_holes.ok sc_Piece_holes (fun vs H Q E h => ?_) (fun cdv A outer s H vs Q E hr h => ?_)
  · obtain ⟨v, t, rfl, _⟩ := h
    rfl
  · obtain ⟨v, t, rfl, hv, hd, hn, k⟩ := h
    have G_names_in : FnOk P w K mg base CX0 (d + 2) T.a_names_in T.d_names_in ["tree"] (spNames K T.C_Moment d) := ok_names_in T hw d
    have hr_names_in : Room (d + 2) _ := hr
    refine ⟨_, ((pss_one (ps_ret (pe_callB cr_sortedS (by rfl) T.n_sorted boot_sorted (pa_cons (pe_lc (own := [("name", 1)]) (g := gName 1) (by rfl) sc_Piece_holes.nd (pi_keys (pe_lockA (pe_dc (own := [("one", 2)]) (g := gName 2) (by rfl) sc_Piece_holes.nd (pi_list (pe_call G_names_in hr_names_in rfl T.g_names_in T.F_names_in.kp T.b_names_in .nil pass0 (pa_cons (pe_fld (pv 0) rfl) pa_nil))) (blkOk_by (own := [("one", 2)]) (N := ["self", "name", "one"]) (sc := defScope s_Piece_holes) (by decide +kernel)) (fun _ _ _ _ _ => pg_name (i := 2) sc_Piece_holes.nd rfl (Or.inl rfl)) (fun _ _ _ _ _ => pts_nil) (fun _ _ _ _ _ => (pv 2)) (fun _ _ _ _ _ => pe_bl)))) (blkOk_by (own := [("name", 1)]) (N := ["self", "name", "one"]) (sc := defScope s_Piece_holes) (by decide +kernel)) (fun _ _ _ _ _ => pg_name (i := 1) sc_Piece_holes.nd rfl (Or.inl rfl)) (fun _ _ _ _ _ => pts_nil) (fun _ _ _ _ _ => (pe_callTy (r := rStrT) call_strT (by rfl) T.n_str boot_str (pa_cons (pv 1) pa_nil)))) pa_nil))))), ?_⟩
    walk_at "tx"
    refine w_iKeysA ?_
    refine w_dc ?_
    walk_at "tx"
    refine w_tree hv fun x hx => ?_
    walk_at "tx"
    refine c_names hx hd (by omega) fun p1 H1 e1 np1 u1 => ?_
    refine ⟨p1, rfl, ⟨_, SqL.of u1⟩, fun D nD => dc_list (K := K) (a := p1) (xs := (names t).map strV) (fun i H' => Ext H1 H' ∧ ∃ (kvs : List (Key × V)) (us : List (List Nat)), H' D = some (.dK kvs) ∧ kvs.map (·.1) = us.map (fun l => (Sum.inr (S l) : Key)) ∧ us.Nodup ∧ (∀ l, l ∈ us ↔ l ∈ (names t).take i) ∧ us.length ≤ i)
      ⟨Ext.new nD, [], [], upd_same, rfl, List.nodup_nil, fun l => by simp, by simp⟩ (fun i H' _ h => SqL.of (h.1 _ _ u1)) ?_ ?_⟩
    · rintro i z H' hi ⟨e, kvs, us, hD, hk, hnd, hm, hl⟩
      rw [List.getElem?_map] at hi
      obtain ⟨l, hl', rfl⟩ := Option.map_eq_some_iff.mp hi
      have ilt : i < (names t).length := (List.getElem?_eq_some_iff.mp hl').1
      refine w_gname ⟨rfl, ?_⟩
      walk_at "tx"
      refine w_yes ?_
      walk_at "tx"
      have hkl : kvs.length = us.length := by simpa using congrArg List.length hk
      have tk : (names t).take (i + 1) = (names t).take i ++ [l] := by rw [List.take_add_one, hl']; rfl
      have inj : ∀ a b : List Nat, (Sum.inr (S a) : Key) = Sum.inr (S b) → a = b := fun a b e => S_inj (Sum.inr.inj e)
      have mem : (Sum.inr (S l) : Key) ∈ kvs.map (·.1) ↔ l ∈ us := by
        rw [hk, List.mem_map]
        exact ⟨fun ⟨a, h1, h2⟩ => by rw [← inj _ _ h2]; exact h1, fun h => ⟨l, h, rfl⟩⟩
      by_cases hin : l ∈ us
      · refine ⟨kvs, .inr (S l), rfl, hD, by rw [sizeLine_eq]; omega, Ext.mut e nD, _, us, upd_same, ?_, hnd, fun a => ?_, by omega⟩
        · rw [keys_put1 (mem.mpr hin), hk]
        · rw [tk, List.mem_append, ← hm]
          constructor
          · exact .inl
          · rintro (h | h)
            · exact h
            · have : a = l := by simpa using h
              rw [this]; exact hin
      · refine ⟨kvs, .inr (S l), rfl, hD, by rw [sizeLine_eq]; omega, Ext.mut e nD, _, us ++ [l], upd_same, ?_, ?_, fun a => ?_, by simp; omega⟩
        · rw [keys_put2 fun z => hin (mem.mp z), hk]
          simp
        · rw [List.nodup_append]
          exact ⟨hnd, by simp, fun a ha b hb => by have : b = l := by simpa using hb
                                                   rw [this]; rintro rfl; exact hin ha⟩
        · rw [tk, List.mem_append, List.mem_append, ← hm]
    · rintro H2 ⟨e2, kvs, us, hD, hk, hnd, hm, hl⟩
      rw [List.length_map] at hm hl
      rw [List.take_length] at hm
      have hkl : kvs.length = us.length := by simpa using congrArg List.length hk
      refine ⟨D, .dK kvs, rfl, hD, True.intro, fun od => ⟨D, od, rfl, .inl ⟨kvs, upd_same, fun D2 nD2 => ?_⟩⟩⟩
      have e3 : Ext H1 (upd H2 D (.frz od (.dK kvs))) := Ext.mut e2 nD
      have u3 : upd H2 D (.frz od (.dK kvs)) D = some (.frz od (.dK kvs)) := upd_same
      generalize upd H2 D (.frz od (.dK kvs)) = H3 at e3 u3 nD2
      refine lc_keys (d := D) (o := od) (kvs := kvs) (fun i H' => Ext H3 H' ∧ H' D2 = some (.lst ((us.take i).map strV))) ⟨Ext.new nD2, upd_same⟩ (fun i H' _ h => h.1 _ _ u3) ?_ ?_
      · rintro i kk vv H' hi ⟨e, hD2⟩
        obtain ⟨l, hl', rfl⟩ : ∃ l, us[i]? = some l ∧ kk = .inr (S l) := by
          have h1 : (kvs.map (·.1))[i]? = some kk := by rw [List.getElem?_map, hi]; rfl
          rw [hk, List.getElem?_map] at h1
          obtain ⟨l, a, b⟩ := Option.map_eq_some_iff.mp h1
          exact ⟨l, a, b.symm⟩
        have ilt : i < us.length := (List.getElem?_eq_some_iff.mp hl').1
        refine w_gname ⟨rfl, ?_⟩
        walk_at "tx"
        refine w_strT ?_
        refine ⟨_, hD2, by rw [List.length_map, sizeLine_eq]; have := List.length_take_le i us; omega, Ext.mut e nD2, ?_⟩
        rw [upd_same, List.take_add_one, hl', List.map_append]
        rfl
      · rintro H4 ⟨e4, hD2⟩
        rw [hkl, List.take_length] at hD2
        walk_at "tx"
        have hL : us.map strV = (us.map S).map V.str := by rw [List.map_map]; rfl
        rw [hL] at hD2
        refine ⟨D2, us.map S, rfl, SqL.of hD2, by rw [List.length_map]; omega, fun ys p perm srt np => ?_⟩
        have ez : (ys.map fun s => s.cps.toList).map S = ys := by
          rw [List.map_map]
          conv => rhs; rw [← List.map_id ys]
          exact List.map_congr_left fun s _ => S_tl s
        have pz : (ys.map fun s => s.cps.toList).Perm us := by
          have := perm.map fun s : Str => s.cps.toList
          rw [List.map_map] at this
          have e2 : us.map ((fun s : Str => s.cps.toList) ∘ S) = us := by
            conv => rhs; rw [← List.map_id us]
            exact List.map_congr_left fun l _ => rfl
          rw [e2] at this
          exact this
        have el : (ys.map V.str) = (ys.map fun s => s.cps.toList).map strV := by
          conv => lhs; rw [← ez]
          rw [List.map_map]
          rfl
        rw [el]
        exact k _ p _ ((e1.t e3).t (e4.t (Ext.new np))) ((e1.t (e3.t e4)).fresh np) (pz.nodup_iff.mpr hnd) (fun l => (pz.mem_iff).trans (hm l)) (by rw [ez]; exact srt) upd_same
end
end AT
namespace AT
open PySem PySem.Spec PyProof.Rows L2 SX
theorem pe_fldC {X : Cx} {K : PySem.W.Frag} {e : Expr} {f : Str} {pos : Pos} {ta : TE} (hK : X.K = K) (he : PE X e ta) (hb : attributeBase e f X.env (eval e X.env) = eval e X.env) : PE X (.Attribute e f pos) (tFld K ta f) := by
  subst hK
  exact pe_fld he hb
def rTupN (K : PySem.W.Frag) : List V → Hp → VK → Prop := fun xs H Q => ∃ p ys, xs = [.ref p] ∧ SqL K H p ys ∧ ∀ l H', Ext H H' → SqT K H' l ys → Q (.ref l) H'
theorem call_tupleN {X : Cx} : CallR X (.type "tuple") (rTupN X.K) := fun pins s σ H xs us Q I r h => by
  obtain ⟨p, ys, rfl, hs, k⟩ := h
  exact call_tuple_of pins s σ H _ us Q I r ⟨p, ys, rfl, .inl ⟨hs, fun l hl => k l _ (Ext.new hl) (SqT.of upd_same)⟩⟩
/-- f(e, ..), f a def with *args -/
theorem pe_callR {X : Cx} {CX : CXT} {k : Nat} {f : Addr} {sp : Sp} {E : XK} {x : Str} {p pos : Pos} {e : Expr} {es : List Expr} {t : TA} (F : FnR X.prog X.w X.K X.mg X.base CX k f sp) (hr : Room k X.A) (hk : PySem.W.keepIn X.K (.ref f) = true) (hg : Gl X x) (hm : X.mg x = some (.ref f)) (hx : Passes CX X E) (ha : PA X (e :: es) t)
    (hd : (x == ("__debug__" : Str)) = false := by decide) (he : starEach (e :: es) X.env = (false, eval e X.env) :: starEach es X.env := by rfl) (hpl : (backTo pos (starEach es X.env)).any (·.1) = false := by rfl) :
    PE X (.Call (.Name x p) (e :: es) [] pos) (tCallS sp (fun _ => E) t) := by
  constructor
  intro pins s σ H Q I h
  refine wpAny_Call_Name_kw (ld_glob I hg hm ?_ hd)
  refine PySem.W.callWith_K (h₀ := X.base) I.ok.mod.kin hk (thn (ha.run pos pins s σ H _ I h) fun us s1 q1 => ?_) he hpl
  obtain ⟨vs, H1, I1, r, q⟩ := q1
  exact ⟨I1.kIn, wpAny_call (run_fnR F hr hx I1 r q)⟩
section
variable {P : Program} {w : World} {K : PySem.W.Frag} {mg : Str → Option Value} {base : Heap}
theorem Rd.stL {H : Hp} {p a : Addr} {l : List V} {o u : HO} (hp : H p = some (.lst l)) (n : ∀ l', u ≠ .lst l') (h : Rd H a u) : Rd (upd H p o) a u := by
  rcases h with h | ⟨z, h⟩
  · exact .inl (by rw [upd_ne fun e => by subst e; rw [hp] at h; cases h; exact n _ rfl]; exact h)
  · exact .inr ⟨z, by rw [upd_ne fun e => by subst e; rw [hp] at h; cases h]; exact h⟩
theorem SqT.stL {H : Hp} {p a : Addr} {l xs : List V} {o : HO} (hp : H p = some (.lst l)) (h : SqT K H a xs) : SqT K (upd H p o) a xs := h.imp (fun h => Rd.stL hp (fun _ z => by cases z) h) id
theorem Mo.stL {C : Addr} {H : Hp} {p : Addr} {l : List V} {o : HO} {v : V} {q : Rat} (hp : H p = some (.lst l)) (h : Mo C H v q) : Mo C (upd H p o) v q := by
  obtain ⟨a, dx, rfl, z⟩ := h
  exact ⟨a, dx, rfl, by rw [upd_ne fun e => by subst e; rw [hp] at z; cases z]; exact z⟩
inductive PcsAt (K : PySem.W.Frag) (C CM : Addr) (H : Hp) : List V → List Tr → Prop where
  | nil : PcsAt K C CM H [] []
  | cons {x : V} {xs : List V} {t : Tr} {ts : List Tr} (h : PcA K C CM H x t) (r : PcsAt K C CM H xs ts) : PcsAt K C CM H (x :: xs) (t :: ts)
theorem PcsAt.up {C CM : Addr} {H H' : Hp} (e : Ext H H') {xs : List V} {ts : List Tr} (h : PcsAt K C CM H xs ts) : PcsAt K C CM H' xs ts := by
  induction h with
  | nil => exact .nil
  | cons h r ih => exact .cons (h.up e) ih
theorem PcsAt.len {C CM : Addr} {H : Hp} {xs : List V} {ts : List Tr} (h : PcsAt K C CM H xs ts) : xs.length = ts.length := by
  induction h with
  | nil => rfl
  | cons h r ih => simp [ih]
theorem PcsAt.get {C CM : Addr} {H : Hp} {xs : List V} {ts : List Tr} (h : PcsAt K C CM H xs ts) : ∀ {i : Nat} {x : V}, xs[i]? = some x → ∃ t, ts[i]? = some t ∧ PcA K C CM H x t := by
  induction h with
  | nil => intro i x e; simp at e
  | cons h r ih =>
    intro i x e
    cases i with
    | zero => simp at e; subst e; exact ⟨_, rfl, h⟩
    | succ i => simp at e; obtain ⟨t, h1, h2⟩ := ih e; exact ⟨t, by simpa using h1, h2⟩
theorem TreesAt.snoc {CM : Addr} {H : Hp} {x : V} {t : Tr} (h1 : TreeAt K CM H x t) : ∀ {xs : List V} {ts : List Tr}, TreesAt K CM H xs ts → TreesAt K CM H (xs ++ [x]) (ts ++ [t])
  | _, _, .nil => .cons h1 .nil
  | _, _, .cons h r => .cons h (r.snoc h1)
theorem TreesAt.take {CM : Addr} {H : Hp} : ∀ {xs : List V} {ts : List Tr}, TreesAt K CM H xs ts → xs.length = ts.length := fun h => h.len
mutual
theorem TreeAt.st {CM p : Addr} {H : Hp} {l : List V} {o : HO} {v : V} {t : Tr} (hp : H p = some (.lst l)) : TreeAt K CM H v t → TreeAt K CM (upd H p o) v t
  | .hole u => .hole (SqT.stL hp u)
  | .sil u => .sil (SqT.stL hp u)
  | .sgn hc u h1 h2 => .sgn hc (SqT.stL hp u) (h1.st hp) (h2.st hp)
  | .up u h1 => .up (SqT.stL hp u) (h1.st hp)
  | .shift u h1 hm => .shift (SqT.stL hp u) (h1.st hp) (Mo.stL hp hm)
  | .pace u h1 hm => .pace (SqT.stL hp u) (h1.st hp) (Mo.stL hp hm)
  | .mirror u h1 => .mirror (SqT.stL hp u) (h1.st hp)
  | .only u h1 hm hm' => .only (SqT.stL hp u) (h1.st hp) (Mo.stL hp hm) (Mo.stL hp hm')
  | .every u h1 h2 => .every (SqT.stL hp u) (h1.st hp) (h2.st hp)
  | .nth u h1 => .nth (SqT.stL hp u) (h1.st hp)
  | .turns u w h => .turns (SqT.stL hp u) (SqT.stL hp w) (h.st hp)
theorem TreesAt.st {CM p : Addr} {H : Hp} {l : List V} {o : HO} {xs : List V} {ts : List Tr} (hp : H p = some (.lst l)) : TreesAt K CM H xs ts → TreesAt K CM (upd H p o) xs ts
  | .nil => .nil
  | .cons h r => .cons (h.st hp) (r.st hp)
end
def spTurns (K : PySem.W.Frag) (C CM : Addr) : Sp := fun vs H Q _ => ∃ ts : List Tr, PcsAt K C CM H vs ts ∧ 0 < ts.length ∧ ts.length ≤ 1000 ∧ ∀ p H', Ext H H' → PcA K C CM H' (.ref p) (.turns ts) → Q (.ref p) H'
theorem ok_turns (T : Tx K mg) : FnR P w K mg base CX0 3 T.a_turns (spTurns K T.C_Piece T.C_Moment) := by
  obtain ⟨oc, od, kV, doc, pm, an, cdv, ct, osl, ed, lk, hcd⟩ := T.F_turns.ex
  rw [ed] at lk
  refine (StX.fn_star (CX := CX0) (ps := []) (pv := "pieces") (k := 2) (sp := fun vs H Q _ => ∃ (p : Addr) (xs : List V) (ts : List Tr), vs = [.ref p] ∧ SqT K H p xs ∧ PcsAt K T.C_Piece T.C_Moment H xs ts ∧ 0 < ts.length ∧ ts.length ≤ 1000 ∧ ∀ p H', Ext H H' → PcA K T.C_Piece T.C_Moment H' (.ref p) (.turns ts) → Q (.ref p) H') lk hcd sc_turns StX.cxUp_none (fun us rest hl => ?_) (fun A outer s H vs Q E hr h => ?_)).imp fun vs H Q E h => ?_
  · match us, hl with
    | [], _ => cases rest <;> rfl
  · obtain ⟨p, xs, ts, rfl, u, ps, h0, h1, k⟩ := h
    have G_Piece___init__ : FnOk P w K mg base CX0 1 T.a_Piece___init__ T.d_Piece___init__ ["self", "tree"] (spPc0 T.C_Piece) := ok_Piece___init__ T
    have hr_Piece___init__ : Room 2 _ := hr
    refine ⟨_, ((pss_cons (ps_if (pt_cmpR op_eq (pe_callB call_lenR (by rfl) T.n_len PySem.boot_len (pa_cons (pv 0) pa_nil)) pe_int (nomark _)) (pss_one ps_never) pss_nil)
 (pss_one (ps_ret (pe_makeR T.M_Piece G_Piece___init__ hr_Piece___init__ rfl T.g_Piece T.b_Piece___init__ .nil pass0 (pa_cons (pe_tup (pa_cons (pe_strS (l := [116, 117, 114, 110, 115]) (by decide +kernel)) (pa_cons (pe_callTy call_tupleN (by rfl) T.n_tuple boot_tuple (pa_cons (pe_lc (own := [("piece", 1)]) (g := gName 1) (by rfl) sc_turns.nd (pi_tup (pv 0)) (blkOk_by (own := [("piece", 1)]) (N := ["pieces", "piece"]) (sc := defScope s_turns) (by decide +kernel)) (fun _ _ _ _ _ => pg_name (i := 1) sc_turns.nd rfl (Or.inl rfl)) (fun _ _ _ _ _ => pts_nil) (fun _ _ _ _ _ => (pe_fldC (K := K) (by rfl) (pv 1) (by rfl)))) pa_nil)) pa_nil))) pa_nil)))))), ?_⟩
    walk_at "tx"
    have len : xs.length = ts.length := ps.len
    refine w_lenT u ?_
    walk_at "tx"
    refine i_dec (fun z => absurd z (by omega)) (fun _ => ?_)
    walk_at "tx"
    refine ⟨p, rfl, ⟨_, u⟩, fun D nD => lc_tup (K := K) (a := p) (xs := xs) (fun i H' => Ext H H' ∧ ∃ acc, H' D = some (.lst acc) ∧ TreesAt K T.C_Moment H' acc (ts.take i)) ⟨Ext.new nD, [], upd_same, .nil⟩ (fun i H' _ h => Same.seqT h.1 u) ?_ ?_⟩
    · rintro i x H' hi ⟨e, acc, hD, ta⟩
      obtain ⟨t, ht, pc⟩ := ps.get hi
      have ilt : i < ts.length := (List.getElem?_eq_some_iff.mp ht).1
      refine w_gname ⟨rfl, ?_⟩
      walk_at "tx"
      refine w_yes ?_
      walk_at "tx"
      refine w_tree (pc.up e) fun y hy => ?_
      have la := ta.len
      rw [List.length_take] at la
      refine ⟨acc, hD, by rw [sizeLine_eq]; omega, Ext.mut e nD, _, upd_same, ?_⟩
      rw [List.take_add_one, ht]
      exact (TreesAt.snoc hy ta).st hD
    · rintro H' ⟨e, acc, hD, ta⟩
      rw [len, List.take_length] at ta
      walk_at "tx"
      refine ⟨D, acc, rfl, SqL.of hD, fun q H2 e2 u2 => ?_⟩
      walk_at "tx"
      refine n_tup (by show 2 ≤ 100000; decide) fun p3 H3 np3 e3 u3 => ?_
      walk_at "tx"
      exact w_piece rfl (.turns (SqT.of u3) (Same.seqT e3 u2) ((ta.lift e2).lift e3)) fun p4 H4 e4 m => k p4 H4 (((e.t e2).t e3).t e4) m
  · obtain ⟨ts, ps, h0, h1, k⟩ := h
    refine ⟨[], vs, rfl, rfl, by rw [ps.len, sizeLine_eq]; omega, fun p np => ⟨p, vs, ts, rfl, SqT.of upd_same, ps.up (Ext.new np), h0, h1, fun p2 H' e m => k p2 H' ((Ext.new np).t e) m⟩⟩
theorem c_turns {C CM : Addr} {vs : List V} {ts : List Tr} {H : Hp} {Q : VK} {E : XK} (ps : PcsAt K C CM H vs ts) (h0 : 0 < ts.length) (h1 : ts.length ≤ 1000) (k : ∀ p H', Ext H H' → PcA K C CM H' (.ref p) (.turns ts) → Q (.ref p) H') : spTurns K C CM vs H Q E := ⟨ts, ps, h0, h1, k⟩
theorem every_binds (T : Tx K mg) : ∃ ds, Vals [.int 0] ds ∧ Binds K T.d_Piece_every ["self", "step", "other", "first"] ds :=
  T.F_Piece_every.binds0 3 (by simp) rfl fun D doc pm an cdv ct us ks hu hk => match us, ks, hu, hk with
    | [_, _, _], [_], _, _ => ⟨_, _, _, _, _, _, rfl, rfl, rfl⟩
theorem only_binds (T : Tx K mg) : ∃ ds, Vals [.int 1] ds ∧ Binds K T.d_Piece_only ["self", "begin", "end", "rounds"] ds :=
  T.F_Piece_only.binds0 3 (by simp) rfl fun D doc pm an cdv ct us ks hu hk => match us, ks, hu, hk with
    | [_, _, _], [_], _, _ => ⟨_, _, _, _, _, _, rfl, rfl, rfl⟩
/-- readings -/
theorem r_own2 {T : Tx K mg} {CM : Addr} {v y : V} {a b : Tr} {sp : Sp} {H : Hp} {Q : VK} {E : XK} (h1 : PcA K T.C_Piece CM H v a) (h2 : PcA K T.C_Piece CM H y b) (k : sp [v, y] H Q E) : rInsIns T.C_Piece sp E v y H Q := by
  obtain ⟨p, dx, x, rfl, z, _⟩ := id h1
  obtain ⟨q, dy, x2, rfl, z2, _⟩ := id h2
  exact ⟨p, dx, _, q, dy, _, rfl, rfl, z, z2, k⟩
theorem r_ownI {T : Tx K mg} {CM : Addr} {v : V} {i : Int} {a : Tr} {sp : Sp} {H : Hp} {Q : VK} {E : XK} (h1 : PcA K T.C_Piece CM H v a) (k : sp [v, .int i] H Q E) : rIns T.C_Piece sp E v (.int i) H Q := by
  obtain ⟨p, dx, x, rfl, z, _⟩ := id h1
  exact ⟨p, dx, _, rfl, z, .inl ⟨i, rfl⟩, k⟩
theorem r_pmeth {C CM : Addr} {m : Str} {sp : Sp} {dvs : List V} {E : XK} {ta : TE} {t : TA} {σ : L2.St} {H : Hp} {Q : VK} (hm : (("tree" : Str) == m) = false) (h : ta σ H fun x H1 => ∃ a, PcA K C CM H1 x a ∧ t σ H1 fun vs H2 => sp (x :: (vs ++ dvs)) H2 Q E) (mono : ∀ (Q1 Q2 : VK), (∀ x H, Q1 x H → Q2 x H) → ta σ H Q1 → ta σ H Q2) : tMeth C m sp dvs E ta t σ H Q := by
  refine mono _ _ (fun x H1 => ?_) h
  rintro ⟨a, ⟨p, dx, y, rfl, z, ta⟩, k⟩
  exact ⟨p, dx, _, rfl, z, by unfold pcF; rw [List.lookup_cons]; rw [show (m == ("tree" : Str)) = false from by rw [Bool.eq_false_iff] at *; intro e; exact hm (by rw [beq_iff_eq] at *; exact e.symm)]; rfl, k⟩
end
end AT
namespace AT
open PySem PySem.Spec PyProof.Rows L2 SX
def signsA : List Nat := [32, 33, 34, 35, 36, 38, 39, 40, 41, 42, 43, 44, 45, 46, 47, 48, 49, 50, 51, 52, 53, 54, 55, 56, 57, 58, 59, 60, 61, 62, 63, 64, 65, 66, 67, 68, 69, 70, 71, 72, 73, 74, 75, 76, 77, 78, 79, 80, 81, 82, 83, 84, 85, 86, 87, 88, 89, 90, 91, 92, 93, 94, 95, 96]
def signsB : List Nat := [97, 98, 99, 100, 101, 102, 103, 104, 105, 106, 107, 108, 109, 110, 111, 112, 113, 114, 115, 116, 117, 118, 119, 120, 121, 122, 123, 124, 125, 126, 10, 9]
theorem signs_at : ∀ j, j < 96 → ∃ c, (signsA ++ signsB)[j]? = some c ∧ c < 1114112 := fun j hj => by
  have h : ∀ j : Fin 96, ((signsA ++ signsB)[j.val]?.any fun c => decide (c < 1114112)) = true := by decide +kernel
  have := h ⟨j, hj⟩
  cases e : (signsA ++ signsB)[j]? with
  | none => simp [e] at this
  | some c => exact ⟨c, rfl, by simpa [e] using this⟩
section
variable {P : Program} {w : World} {K : PySem.W.Frag} {mg : Str → Option Value} {base : Heap}
def spSign : Sp := fun vs H Q _ => ∃ k : Int, vs = [.int k] ∧ ∀ c : Nat, c < 1114112 → Q (.str (S [c])) H
theorem ok__law_sign (T : Tx K mg) : FnOk P w K mg base CX0 1 T.a__law_sign T.d__law_sign ["_law_k"] spSign := by
  refine T.F__law_sign.ok sc__law_sign (fun vs H Q E h => ?_) (fun cdv A outer s H vs Q E hr h => ?_)
  · obtain ⟨k, rfl, _⟩ := h
    rfl
  · obtain ⟨i, rfl, k⟩ := h
    refine ⟨_, ((pss_cons (ps_set (i := 1) sc__law_sign.nd rfl (Or.inl rfl) (pe_strS (l := [32, 33, 34, 35, 36, 38, 39, 40, 41, 42, 43, 44, 45, 46, 47, 48, 49, 50, 51, 52, 53, 54, 55, 56, 57, 58, 59, 60, 61, 62, 63, 64, 65, 66, 67, 68, 69, 70, 71, 72, 73, 74, 75, 76, 77, 78, 79, 80, 81, 82, 83, 84, 85, 86, 87, 88, 89, 90, 91, 92, 93, 94, 95, 96]) (by decide +kernel)))
 (pss_cons (ps_set (i := 1) sc__law_sign.nd rfl (Or.inl rfl) (pe_op op_catT (pv 1) (pe_strS (l := [97, 98, 99, 100, 101, 102, 103, 104, 105, 106, 107, 108, 109, 110, 111, 112, 113, 114, 115, 116, 117, 118, 119, 120, 121, 122, 123, 124, 125, 126, 10, 9]) (by decide +kernel))))
 (pss_one (ps_ret (pe_ix ix_str (pv 1) (pe_op op_mod (pv 0) pe_int) (fun _ _ => rfl))))))), ?_⟩
    walk_at "tx"
    obtain ⟨j, hj, ej⟩ : ∃ j : Nat, j < 96 ∧ i % 96 = (j : Int) := ⟨(i % 96).toNat, by omega, by omega⟩
    obtain ⟨c, hc, hcl⟩ := signs_at j hj
    rw [ej]
    exact w_ixS (l := signsA ++ signsB) (by decide) (atI_nat hc) (k c hcl)
def spSpoilt : Sp := fun vs H Q _ => ∃ (l : List Nat) (kd pl k : Int), vs = [.str (S l), .int kd, .int pl, .int k] ∧ l.length ≤ 4500 ∧ (∀ c ∈ l, c < 1114112) ∧ ∀ m : List Nat, m.length ≤ 5000 → (∀ c ∈ m, c < 1114112) → Q (.str (S m)) H
theorem c_sign {k : Int} {H : Hp} {Q : VK} {E : XK} (h : ∀ c : Nat, c < 1114112 → Q (.str (S [c])) H) : spSign [.int k] H Q E := ⟨k, rfl, h⟩
theorem ok__law_spoilt (T : Tx K mg) : FnOk P w K mg base CX0 2 T.a__law_spoilt T.d__law_spoilt ["_law_text", "_law_kind", "_law_place", "_law_k"] spSpoilt := by
  refine T.F__law_spoilt.ok sc__law_spoilt (fun vs H Q E h => ?_) (fun cdv A outer s H vs Q E hr h => ?_)
  · obtain ⟨l, kd, pl, k, rfl, _⟩ := h
    rfl
  · obtain ⟨l, kd, pl, ks, rfl, hl, hc, k⟩ := h
    have G__law_sign : FnOk P w K mg base CX0 1 T.a__law_sign T.d__law_sign ["_law_k"] spSign := ok__law_sign T
    have hr__law_sign : Room 1 _ := hr
    refine ⟨_, ((pss_cons (ps_set (i := 4) sc__law_spoilt.nd rfl (Or.inl rfl) (pe_op op_mod (pv 2) (pe_op op_add (pe_callB call_lenT (by rfl) T.n_len PySem.boot_len (pa_cons (pv 0) pa_nil)) pe_int)))
 (pss_cons (ps_if (pt_cmpR op_eq (pv 1) pe_int (nomark _)) (pss_one (ps_ret (pv 0))) pss_nil)
 (pss_cons (ps_if (pt_cmpR op_eq (pv 1) pe_int (nomark _)) (pss_one (ps_ret (pe_op op_catT (pe_op op_catT (pe_slice C8.sl_txt (pv 0) po_none (po_some (pv 4))) (pe_call G__law_sign hr__law_sign rfl T.g__law_sign T.F__law_sign.kp T.b__law_sign .nil pass0 (pa_cons (pv 3) pa_nil))) (pe_slice C8.sl_txt (pv 0) (po_some (pv 4)) po_none)))) pss_nil)
 (pss_cons (ps_if (pt_cmpR op_eq (pv 1) pe_int (nomark _)) (pss_one (ps_ret (pe_op op_catT (pe_slice C8.sl_txt (pv 0) po_none (po_some (pv 4))) (pe_slice C8.sl_txt (pv 0) (po_some (pe_op op_add (pv 4) pe_int)) po_none)))) pss_nil)
 (pss_cons (ps_if (pt_cmpR op_eq (pv 1) pe_int (nomark _)) (pss_one (ps_ret (pe_op op_catT (pe_op op_catT (pe_slice C8.sl_txt (pv 0) po_none (po_some (pv 4))) (pe_call G__law_sign hr__law_sign rfl T.g__law_sign T.F__law_sign.kp T.b__law_sign .nil pass0 (pa_cons (pv 3) pa_nil))) (pe_slice C8.sl_txt (pv 0) (po_some (pe_op op_add (pv 4) pe_int)) po_none)))) pss_nil)
 (pss_one (ps_ret (pe_op op_catT (pe_op op_catT (pe_slice C8.sl_txt (pv 0) po_none (po_some (pv 4))) (pe_slice C8.sl_txt (pv 0) (po_some (pv 4)) (po_some (pe_op op_add (pv 4) pe_int)))) (pe_slice C8.sl_txt (pv 0) (po_some (pv 4)) po_none)))))))))), ?_⟩
    walk_at "tx"
    refine w_mod (by omega) ?_
    obtain ⟨j, hj, ej⟩ : ∃ j : Nat, j ≤ l.length ∧ pl % ((l.length : Int) + 1) = (j : Int) := by
      have h1 := Int.emod_nonneg pl (show ((l.length : Int) + 1) ≠ 0 by omega)
      have h2 := Int.emod_lt_of_pos pl (show (0 : Int) < (l.length : Int) + 1 by omega)
      exact ⟨(pl % ((l.length : Int) + 1)).toNat, by omega, by omega⟩
    rw [ej]
    have tk : ∀ c ∈ l.take j, c < 1114112 := fun c z => hc c (List.mem_of_mem_take z)
    have dr : ∀ i, ∀ c ∈ l.drop i, c < 1114112 := fun i c z => hc c (List.mem_of_mem_drop z)
    have n1 : ((j : Int)).toNat = j := by omega
    have n2 : ((j : Int) + 1).toNat = j + 1 := by omega
    have lt := List.length_take_le' j l
    have ld : ∀ i, (l.drop i).length ≤ l.length := fun i => by rw [List.length_drop]; omega
    walk_at "tx"
    refine i_dec (fun c => ?_) (fun c0 => ?_)
    · walk_at "tx"
      exact k l (by omega) hc
    walk_at "tx"
    refine i_dec (fun c => ?_) (fun c1 => ?_)
    · walk_at "tx"
      refine w_slTo (by omega) (by omega) ?_
      walk_at "tx"
      refine c_sign fun c hcc => ?_
      walk_at "tx"
      refine w_slFrom (by omega) (by omega) ?_
      rw [n1]
      have := ld j
      refine w_catT (by simp; omega) (k _ (by simp; omega) fun d hd => ?_)
      rcases List.mem_append.mp hd with h | h
      · rcases List.mem_append.mp h with h | h
        · exact tk d h
        · have : d = c := by simpa using h
          omega
      · exact dr _ d h
    walk_at "tx"
    refine i_dec (fun c => ?_) (fun c2 => ?_)
    · walk_at "tx"
      refine w_slTo (by omega) (by omega) ?_
      walk_at "tx"
      refine w_slFrom (by omega) (by omega) ?_
      rw [n1, n2]
      have := ld (j + 1)
      refine w_catT (by omega) (k _ (by simp; omega) fun d hd => ?_)
      rcases List.mem_append.mp hd with h | h
      · exact tk d h
      · exact dr _ d h
    walk_at "tx"
    refine i_dec (fun c => ?_) (fun c3 => ?_)
    · walk_at "tx"
      refine w_slTo (by omega) (by omega) ?_
      walk_at "tx"
      refine c_sign fun c hcc => ?_
      walk_at "tx"
      refine w_slFrom (by omega) (by omega) ?_
      rw [n1, n2]
      have := ld (j + 1)
      refine w_catT (by simp; omega) (k _ (by simp; omega) fun d hd => ?_)
      rcases List.mem_append.mp hd with h | h
      · rcases List.mem_append.mp h with h | h
        · exact tk d h
        · have : d = c := by simpa using h
          omega
      · exact dr _ d h
    walk_at "tx"
    refine w_slTo (by omega) (by omega) ?_
    walk_at "tx"
    refine w_slMid (i := j) (j := j + 1) rfl (by omega) (by omega) (by omega) ?_
    walk_at "tx"
    refine w_slFrom (by omega) (by omega) ?_
    rw [n1]
    have := ld j
    have lm : ((l.drop j).take (j + 1 - j)).length ≤ 1 := by
      have := List.length_take_le (j + 1 - j) (l.drop j)
      omega
    refine w_catT (by simp; omega) (k _ (by simp; omega) fun d hd => ?_)
    rcases List.mem_append.mp hd with h | h
    · rcases List.mem_append.mp h with h | h
      · exact tk d h
      · exact dr _ d (List.mem_of_mem_take h)
    · exact dr _ d h
end
end AT
namespace AT
open PySem PySem.Spec PyProof.Rows L2 SX
def rJoin (K : PySem.W.Frag) : V → List V → Hp → VK → Prop := fun x xs H Q => ∃ a p, ∃ ys : List Str, x = .str a ∧ xs = [.ref p] ∧ (SqL K H p (ys.map V.str) ∨ SqT K H p (ys.map V.str)) ∧ (ys.map (·.length)).sum + ys.length * a.length ≤ 16777216 ∧ Q (.str (Txt.join a ys)) H
theorem mt_joinN {X : Cx} : MtR X "str.join" (rJoin X.K) := mt_join
def rNotInSeq (K : PySem.W.Frag) : R2 := rIn K true
theorem op_notInSeq {X : Cx} : OpR X (compareOp .NotIn) (rNotInSeq X.K) := op_notIn_seq
theorem w_strZ {z : Str} {P : Prop} (h : P) : (∃ y, V.str z = .str y) ∧ P := ⟨⟨z, rfl⟩, h⟩
/-- letters one behind the other -/
theorem join_one (l : List Nat) : Txt.join (S []) (l.map fun c => S [c]) = S l := by
  have e : (l.map fun c => S [c]) = (l.map fun c => [c]).map S := by rw [List.map_map]; rfl
  rw [e, join_S]
  congr 1
  induction l with
  | nil => rfl
  | cons a r ih =>
    cases r with
    | nil => rfl
    | cons b r => simp [TL.joinL] at *; exact ih
theorem sum_one : ∀ l : List Nat, ((l.map fun c => S [c]).map (·.length)).sum = l.length
  | [] => rfl
  | c :: r => by
    have ih := sum_one r
    have h1 : (S [c]).length = 1 := rfl
    rw [List.map_cons, List.map_cons, List.sum_cons, ih, h1, List.length_cons]
    omega
def chV (c : Nat) : V := .str (S [c])
theorem dp_strs {K : PySem.W.Frag} {H : Hp} : ∀ ls : List (List Nat), DpAll K H (ls.map strV) (ls.map fun l => PyData.str (S l))
  | [] => .nil
  | l :: r => .cons (.str _) (dp_strs r)
theorem eqv_strs : ∀ as bs : List (List Nat), PyData.eqvAll (as.map fun l => PyData.str (S l)) (bs.map fun l => PyData.str (S l)) = decide (as = bs)
  | [], [] => by simp [PyData.eqvAll]
  | [], _ :: _ => by simp [PyData.eqvAll]
  | _ :: _, [] => by simp [PyData.eqvAll]
  | a :: as, b :: bs => by
    have e : (S a == S b) = decide (a = b) := S_beq_eq
    simp [PyData.eqvAll, PyData.eqv, eqv_strs as bs, e]
theorem lay_strs : ∀ ls : List (List Nat), (∀ l ∈ ls, ∀ c ∈ l, c < 1114112) → PyData.canLayAll0 (ls.map fun l => PyData.str (S l)) = true
  | [], _ => rfl
  | l :: r, h => by
    have h1 : PyData.strOk (S l) = true := by simpa [PyData.strOk] using h l (List.mem_cons_self ..)
    have ih := lay_strs r fun m hm => h m (List.mem_cons_of_mem _ hm)
    simp [PyData.canLayAll0, PyData.canLay0, h1, ih]
theorem dep_strs : ∀ ls : List (List Nat), PyData.depthAll (ls.map fun l => PyData.str (S l)) = 0
  | [] => rfl
  | l :: r => by simp [PyData.depthAll, PyData.depth, dep_strs r]
theorem shaped_strs {ls : List (List Nat)} (h : ∀ l ∈ ls, ∀ c ∈ l, c < 1114112) : SeqAt.shaped (.list (ls.map fun l => PyData.str (S l))) = true := by
  simp [SeqAt.shaped, PyData.canLay0, PyData.depth, lay_strs ls h, dep_strs ls]
theorem inV_strs (l : List Nat) : ∀ ls : List (List Nat), inV (strV l) (ls.map strV) = decide (l ∈ ls)
  | [] => rfl
  | a :: r => by
    have ih := inV_strs l r
    have e : (S a == S l) = decide (a = l) := S_beq_eq
    unfold inV at *
    rw [List.map_cons, List.any_cons, ih]
    show ((S a == S l) || decide (l ∈ r)) = _
    rw [e]
    by_cases h : a = l
    · subst h; simp
    · have : ¬ l = a := fun z => h z.symm
      simp [h, this]
section
variable {P : Program} {w : World} {K : PySem.W.Frag} {mg : Str → Option Value} {base : Heap}
def NameOk (l : List Nat) : Prop := GoodName l
/-- a row of a name: its length, then letters -/
def spName (K : PySem.W.Frag) : Sp := fun vs H Q _ => ∃ (r : Addr) (k0 : Int) (ks : List Int), vs = [.ref r, .int 0] ∧ SqL K H r (.int k0 :: ks.map V.int) ∧ ks.length = 8 ∧ (∀ k ∈ ks, 0 ≤ k ∧ k < 26) ∧ ∀ (l : List Nat) H', Ext H H' → GoodName l → Q (.str (S l)) H'
theorem ok__law_name (T : Tx K mg) : FnOk P w K mg base CX0 1 T.a__law_name T.d__law_name ["_law_row_here", "_law_at"] (spName K) := by
  refine T.F__law_name.ok sc__law_name (fun vs H Q E h => ?_) (fun cdv A outer s H vs Q E hr h => ?_)
  · obtain ⟨r, k0, ks, rfl, _⟩ := h
    rfl
  · obtain ⟨r, k0, ks, rfl, hl, h8, hk, k⟩ := h
    refine ⟨_, ((pss_cons (ps_set (i := 2) sc__law_name.nd rfl (Or.inr rfl) (pe_strS (l := [97, 98, 99, 100, 101, 102, 103, 104, 105, 106, 107, 108, 109, 110, 111, 112, 113, 114, 115, 116, 117, 118, 119, 120, 121, 122]) (by decide +kernel)))
 (pss_cons (ps_set (i := 3) sc__law_name.nd rfl (Or.inl rfl) (pe_m1 PySem.F.slot_str_join PySem.F.type_str_join mt_joinN (pe_strS (l := []) (by decide +kernel)) (pe_lc (own := [("_law_k", 4)]) (g := gName 4) (by rfl) sc__law_name.nd (pi_range1 rfl T.n_range (pa_cons (pe_op op_add pe_int (pe_op op_mod (pe_ix ix_list (pv 0) (pv 1) (fun _ _ => rfl)) pe_int)) pa_nil)) (blkOk_by (own := [("_law_k", 4)]) (N := ["_law_row_here", "_law_at", "_law_letters", "_law_name_here", "_law_k"]) (sc := defScope s__law_name) (by decide +kernel)) (fun _ _ _ _ _ => pg_name (i := 4) sc__law_name.nd rfl (Or.inl rfl)) (fun _ _ _ _ _ => pts_nil) (fun _ _ _ _ _ => (pe_ix ix_str (pv 2) (pe_ix (r := rIxL K) ix_list (pv 0) (pe_op op_add (pe_op op_add (pv 1) pe_int) (pv 4)) (fun _ _ => rfl)) (fun _ _ => rfl))))))
 (pss_cons (ps_if (pt_cmpR op_eq (pv 3) (pe_strS (l := [115, 101, 108, 102]) (by decide +kernel)) (nomark _)) (pss_one (ps_ret (pe_strS (l := [115, 101, 108, 118, 101, 115]) (by decide +kernel)))) pss_nil)
 (pss_one (ps_ret (pv 3))))))), ?_⟩
    walk_at "tx"
    refine w_strZ ?_
    walk_at "tx"
    refine w_ixL hl (atI_nat (j := 0) rfl) ?_
    walk_at "tx"
    obtain ⟨n, n1, n8, en⟩ : ∃ n : Nat, 1 ≤ n ∧ n ≤ 8 ∧ 1 + k0 % 8 = (n : Int) := ⟨(1 + k0 % 8).toNat, by omega, by omega, by omega⟩
    rw [en]
    let L : List Nat := ks.map fun k => az.getD k.toNat 97
    have hL : L.length = 8 := by rw [List.length_map]; exact h8
    have azL : ∀ c ∈ L, c ∈ az := fun c hc => by
      obtain ⟨q, hq, rfl⟩ := List.mem_map.mp hc
      obtain ⟨q0, q1⟩ := hk q hq
      rw [List.getD_eq_getElem?_getD, List.getElem?_eq_getElem (show q.toNat < az.length by show q.toNat < 26; omega)]
      exact List.getElem_mem _
    refine ⟨_, rfl, by omega, by omega, fun D nD => lc_range (lo := 0) (n := (n : Int).toNat) (fun i H' => Ext H H' ∧ H' D = some (.lst ((L.take i).map chV))) ⟨Ext.new nD, upd_same⟩ ?_ ?_⟩
    · rintro i H' hi ⟨e, hD⟩
      have i8 : i < 8 := by omega
      obtain ⟨q, hq⟩ : ∃ q, ks[i]? = some q := ⟨_, List.getElem?_eq_getElem (by omega)⟩
      obtain ⟨q0, q1⟩ := hk q (List.mem_of_getElem? hq)
      have hl' := e.seq hl
      refine w_gname ⟨rfl, ?_⟩
      walk_at "tx"
      refine w_yes ?_
      walk_at "tx"
      refine w_ixL hl' (v := .int q) (by
        rw [show (0 + 1 + (0 + (i : Int))) = ((i + 1 : Nat) : Int) by omega]
        exact atI_nat (by rw [List.getElem?_cons_succ, List.getElem?_map, hq]; rfl)) ?_
      walk_at "tx"
      have hc : az[q.toNat]? = some (az.getD q.toNat 97) := by
        rw [List.getD_eq_getElem?_getD, List.getElem?_eq_getElem (show q.toNat < az.length by show q.toNat < 26; omega)]
        rfl
      refine w_ixS (l := az) (by decide) (by rw [show q = ((q.toNat : Nat) : Int) by omega]; exact atI_nat hc) ?_
      have hLi : L[i]? = some (az.getD q.toNat 97) := by rw [List.getElem?_map, hq]; rfl
      refine ⟨_, hD, by rw [List.length_map, List.length_take, sizeLine_eq]; omega, Ext.mut e nD, ?_⟩
      rw [upd_same, List.take_add_one, hLi, List.map_append]
      rfl
    · rintro H' ⟨e, hD⟩
      have nn : ((n : Int)).toNat = n := by omega
      rw [nn] at hD
      have eV : (L.take n).map chV = ((L.take n).map fun c => S [c]).map V.str := by rw [List.map_map]; rfl
      rw [eV] at hD
      refine ⟨S [], D, (L.take n).map fun c => S [c], rfl, rfl, .inl (SqL.of hD), ?_, ?_⟩
      · rw [sum_one, List.length_map, List.length_take]
        have : (S []).length = 0 := rfl
        rw [this]
        omega
      · rw [join_one]
        have gl : (L.take n).length = n := by rw [List.length_take]; omega
        walk_at "tx"
        refine i_dec (fun c => ?_) (fun c => ?_)
        · walk_at "tx"
          exact k _ H' e (by decide)
        · walk_at "tx"
          exact k _ H' e ⟨by omega, by omega, c, fun c hc => azL c (List.mem_of_mem_take hc)⟩
end
end AT
namespace AT
open PySem PySem.Spec PyProof.Rows L2 SX
theorem risS_pw : ∀ (p : List Nat) (r : List (List Nat)), risingS (S p) (r.map S) = true → (p :: r).Pairwise (fun a b => ¬ b < a)
  | p, [], _ => by simp
  | p, x :: r, h => by
    have h' : (!ltCps x p && risingS (S x) (r.map S)) = true := h
    rw [Bool.and_eq_true, ltCps_eq] at h'
    have h1 : ¬ x < p := by simpa using h'.1
    have ih := risS_pw x r h'.2
    rw [List.pairwise_cons]
    refine ⟨fun y hy => ?_, ih⟩
    rcases List.mem_cons.mp hy with rfl | hy
    · exact h1
    · have h2 : ¬ y < x := (List.pairwise_cons.mp ih).1 y hy
      exact List.le_trans (l₁ := p) (l₂ := x) (l₃ := y) h1 h2
theorem sortS_pw {zs : List (List Nat)} (h : sortedS (zs.map S) = true) : zs.Pairwise (fun a b => ¬ b < a) := by
  cases zs with
  | nil => exact .nil
  | cons x r => exact risS_pw x r h
theorem uniq_sorted : ∀ {as bs : List (List Nat)}, as.Pairwise (fun a b => ¬ b < a) → bs.Pairwise (fun a b => ¬ b < a) → as.Nodup → bs.Nodup → (∀ l, l ∈ as ↔ l ∈ bs) → as = bs
  | [], [], _, _, _, _, _ => rfl
  | [], b :: bs, _, _, _, _, h => absurd ((h b).mpr (List.mem_cons_self ..)) (by simp)
  | a :: as, [], _, _, _, _, h => absurd ((h a).mp (List.mem_cons_self ..)) (by simp)
  | a :: as, b :: bs, h1, h2, n1, n2, h => by
    have p1 := List.pairwise_cons.mp h1
    have p2 := List.pairwise_cons.mp h2
    have m1 := List.nodup_cons.mp n1
    have m2 := List.nodup_cons.mp n2
    have e : a = b := by
      rcases List.mem_cons.mp ((h a).mp (List.mem_cons_self ..)) with e | ha
      · exact e
      · rcases List.mem_cons.mp ((h b).mpr (List.mem_cons_self ..)) with e | hb
        · exact e.symm
        · exact List.le_antisymm (p1.1 b hb) (p2.1 a ha)
    subst e
    congr 1
    refine uniq_sorted p1.2 p2.2 m1.2 m2.2 fun l => ?_
    constructor
    · intro hl
      rcases List.mem_cons.mp ((h l).mp (List.mem_cons_of_mem _ hl)) with e | h'
      · subst e; exact absurd hl m1.1
      · exact h'
    · intro hl
      rcases List.mem_cons.mp ((h l).mpr (List.mem_cons_of_mem _ hl)) with e | h'
      · subst e; exact absurd hl m2.1
      · exact h'
section
variable {P : Program} {w : World} {K : PySem.W.Frag} {mg : Str → Option Value} {base : Heap}
def rPropX (C : Addr) (sp : Sp) (dvs : List V) (E : XK) : V → Hp → VK → Prop := fun x H1 Q => ∃ a dx fs, x = .ref a ∧ H1 a = some (.ins C dx fs) ∧ sp (.ref a :: dvs) H1 Q E
theorem w_prop {C : Addr} {sp : Sp} {dvs : List V} {E : XK} {ta : TE} {σ : L2.St} {H : Hp} {Q : VK} (h : ta σ H fun x H1 => rPropX C sp dvs E x H1 Q) : tProp C sp dvs E ta σ H Q := h
theorem r_prop {C CM : Addr} {sp : Sp} {dvs : List V} {E : XK} {v : V} {t : Tr} {H : Hp} {Q : VK} (hv : PcA K C CM H v t) (k : sp (v :: dvs) H Q E) : rPropX C sp dvs E v H Q := by
  obtain ⟨a, dx, x, rfl, z, _⟩ := id hv
  exact ⟨a, dx, _, rfl, z, k⟩
theorem c_holes {C CM : Addr} {d : Nat} {v : V} {t : Tr} {H : Hp} {Q : VK} {E : XK} (hv : PcA K C CM H v t) (hd : dep t ≤ d) (hn : (names t).length < 64) (k : ∀ (zs : List (List Nat)) p H', Ext H H' → H p = none → zs.Nodup → (∀ l, l ∈ zs ↔ l ∈ names t) → zs.Pairwise (fun a b => ¬ b < a) → H' p = some (.lst (zs.map strV)) → Q (.ref p) H') : spHoles0 K C CM d [v] H Q E :=
  ⟨v, t, rfl, hv, hd, hn, fun zs p H' e np nd hm hs u => k zs p H' e np nd hm (sortS_pw hs) u⟩
def spIsName : Sp := fun vs H Q _ => ∃ l : List Nat, vs = [.str (S l)] ∧ l.length ≤ 5000 ∧ (∀ c ∈ l, c < 1114112) ∧ ∀ H', Ext H H' → Q (.bl (decide (GoodName l))) H'
theorem ok__law_is_name (T : Tx K mg) : FnOk P w K mg base CX0 2 T.a__law_is_name T.d__law_is_name ["_law_text"] spIsName := by
  refine T.F__law_is_name.ok sc__law_is_name (fun vs H Q E h => ?_) (fun cdv A outer s H vs Q E hr h => ?_)
  · obtain ⟨l, rfl, _⟩ := h
    rfl
  · obtain ⟨l, rfl, hl, hch, k⟩ := h
    have hr1 : Room 1 _ := hr
    refine ⟨_, ((pss_cons (ps_if (PW.pt (pw_or (pt_cmpR op_eq (pv 0) (pe_strS (l := []) (by decide +kernel)) (nomark _)) (pw_or (pt_cmpR op_gt (pe_callB call_lenT (by rfl) T.n_len PySem.boot_len (pa_cons (pv 0) pa_nil)) pe_int (nomark _)) (pw_or1 (pt_cmpR op_eq (pv 0) (pe_strS (l := [115, 101, 108, 102]) (by decide +kernel)) (nomark _)))))) (pss_one (ps_ret pe_bl)) pss_nil)
 (pss_one (ps_ret (pe_cmpR (op_eqD hr1.units) (pe_lc (own := [("_law_one", 1)]) (g := gName 1) (by rfl) sc__law_is_name.nd (pi_str (pv 0)) (blkOk_by (own := [("_law_one", 1)]) (N := ["_law_text", "_law_one"]) (sc := defScope s__law_is_name) (by decide +kernel)) (fun _ _ _ _ _ => pg_name (i := 1) sc__law_is_name.nd rfl (Or.inl rfl)) (fun _ _ _ _ _ => (pts_one (pt_cmpR op_notInS (pv 1) (pe_strS (l := [97, 98, 99, 100, 101, 102, 103, 104, 105, 106, 107, 108, 109, 110, 111, 112, 113, 114, 115, 116, 117, 118, 119, 120, 121, 122]) (by decide +kernel)) (by rfl)))) (fun _ _ _ _ _ => (pv 1))) (pe_lst pa_nil) (nomark _)))))), ?_⟩
    have no : ¬ GoodName l → ∀ H', Ext H H' → Q (.bl false) H' := fun n H' e => by have := k H' e; rw [decide_eq_false n] at this; exact this
    walk_at "tx"
    refine i_dec (fun c => ?_) (fun c0 => ?_)
    · walk_at "tx"
      exact no (fun z => by have := z.1; rw [c] at this; simp at this) H fun _ _ e => e
    walk_at "tx"
    refine i_dec (fun c => ?_) (fun c1 => ?_)
    · walk_at "tx"
      exact no (fun z => by have := z.2.1; omega) H fun _ _ e => e
    walk_at "tx"
    refine i_dec (fun c => ?_) (fun c2 => ?_)
    · walk_at "tx"
      exact no (fun z => z.2.2.1 c) H fun _ _ e => e
    walk_at "tx"
    refine ⟨S l, rfl, fun D nD => lc_str (l := l) (fun i H' => H' = upd H D (.lst (((l.take i).filter fun c => !decide (c ∈ az)).map chV))) rfl ?_ ?_⟩
    · rintro i c H' hi rfl
      refine w_gname ⟨rfl, ?_⟩
      walk_at "tx"
      have hf : (l.take (i + 1)).filter (fun c => !decide (c ∈ az)) = (l.take i).filter (fun c => !decide (c ∈ az)) ++ ([c].filter fun c => !decide (c ∈ az)) := by
        rw [List.take_add_one, hi, List.filter_append]
        rfl
      refine i_ndec (fun hc => ?_) (fun hc => ?_)
      · have hc : c ∈ az := hc
        rw [hf]
        simp [hc]
      · have hc : ¬ c ∈ az := hc
        walk_at "tx"
        refine ⟨_, upd_same, ?_, ?_⟩
        · rw [List.length_map]
          refine Nat.lt_of_le_of_lt (List.length_filter_le ..) ?_
          refine Nat.lt_of_le_of_lt (List.length_take_le' ..) ?_
          rw [sizeLine_eq]
          omega
        · rw [upd_upd, hf]
          simp [hc, chV]
    · rintro H' rfl
      walk_at "tx"
      rw [List.take_length]
      have e1 : Ext H (upd H D (.lst ((l.filter fun c => !decide (c ∈ az)).map chV))) := Ext.new nD
      generalize hH1 : upd H D (.lst ((l.filter fun c => !decide (c ∈ az)).map chV)) = H1 at e1
      have u1 : H1 D = some (.lst ((l.filter fun c => !decide (c ∈ az)).map chV)) := by rw [← hH1]; exact upd_same
      refine n_lst (by decide) fun p2 H2 _ e2 u2 => ?_
      have eV : (l.filter fun c => !decide (c ∈ az)).map chV = ((l.filter fun c => !decide (c ∈ az)).map fun c => [c]).map strV := by rw [List.map_map]; rfl
      rw [eV] at u1
      refine n_eqD (.lst (SqL.of (e2 _ _ u1)) (dp_strs _)) (.lst (SqL.of u2) (dp_strs [])) (shaped_strs fun m hm c hc => ?_) rfl ?_
      · obtain ⟨d, hd, rfl⟩ := List.mem_map.mp hm
        have : c = d := by simpa using hc
        subst this
        exact hch c (List.mem_filter.mp hd).1
      have ev : PyData.eqv (.list (((l.filter fun c => !decide (c ∈ az)).map fun c => [c]).map fun l => PyData.str (S l))) (.list (([] : List (List Nat)).map fun l => PyData.str (S l))) = decide (GoodName l) := by
        simp only [PyData.eqv]
        rw [eqv_strs, decide_eq_decide, List.map_eq_nil_iff, List.filter_eq_nil_iff]
        constructor
        · intro h
          exact ⟨by have := List.length_pos_iff.mpr c0; omega, by omega, c2, fun c hc => by have := h c hc; simpa using this⟩
        · intro h c hc
          simp [h.2.2.2 c hc]
      rw [ev]
      exact k _ (e1.t e2)
end
end AT
namespace AT
open PySem PySem.Spec PyProof.Rows L2 SX
section
variable {P : Program} {w : World} {K : PySem.W.Frag} {mg : Str → Option Value} {base : Heap}
theorem c_isName {l : List Nat} {H : Hp} {Q : VK} {E : XK} (hl : l.length ≤ 5000) (hc : ∀ c ∈ l, c < 1114112) (k : ∀ H', Ext H H' → Q (.bl (decide (GoodName l))) H') : spIsName [.str (S l)] H Q E := ⟨l, rfl, hl, hc, k⟩
theorem eq_one {H : Hp} {Q : VK} {p q : Addr} {as bs : List (List Nat)} (ha : SqL K H p (as.map strV)) (hb : SqL K H q (bs.map strV)) (ca : ∀ l ∈ as, ∀ c ∈ l, c < 1114112) (cb : ∀ l ∈ bs, ∀ c ∈ l, c < 1114112) (k : Q (.bl (decide (as = bs))) H) : rEqD K (.ref p) (.ref q) H Q := by
  refine n_eqD (.lst ha (dp_strs as)) (.lst hb (dp_strs bs)) (shaped_strs ca) (shaped_strs cb) ?_
  have : PyData.eqv (.list (as.map fun l => PyData.str (S l))) (.list (bs.map fun l => PyData.str (S l))) = decide (as = bs) := by
    simp only [PyData.eqv]
    exact eqv_strs as bs
  rw [this]
  exact k
def spTaken : Sp := fun vs H Q _ => ∃ l : List Nat, vs = [.str (S l)] ∧ l.length ≤ 5000 ∧ (∀ c ∈ l, c < 1114112) ∧ ∀ H', Ext H H' → Q (.bl true) H'
theorem c_taken {l : List Nat} {H : Hp} {Q : VK} {E : XK} (hl : l.length ≤ 5000) (hc : ∀ c ∈ l, c < 1114112) (k : ∀ H', Ext H H' → Q (.bl true) H') : spTaken [.str (S l)] H Q E := ⟨l, rfl, hl, hc, k⟩
theorem ok__law_taken (T : Tx K mg) (hw : T.PR = w.params) : FnOk P w K mg base CX0 7 T.a__law_taken T.d__law_taken ["_law_text"] spTaken := by
  refine T.F__law_taken.ok sc__law_taken (fun vs H Q E h => ?_) (fun cdv A outer s H vs Q E hr h => ?_)
  · obtain ⟨l, rfl, _⟩ := h
    rfl
  · obtain ⟨l, rfl, hl, hch, k⟩ := h
    have G_Piece_named : FnOk P w K mg base (L2.CX P w) 3 T.a_Piece_named T.d_Piece_named ["name"] (spNamed K T.C_Piece T.C_Moment T.C_NoName) := ok_Piece_named T
    have G__law_is_name : FnOk P w K mg base CX0 2 T.a__law_is_name T.d__law_is_name ["_law_text"] spIsName := ok__law_is_name T
    have G_holes : FnOk P w K mg base CX0 (1 + 3) T.a_Piece_holes T.d_Piece_holes ["self"] (spHoles0 K T.C_Piece T.C_Moment 1) := ok_Piece_holes T hw 1
    obtain ⟨ph, PH⟩ := T.pr_Piece_holes
    have hr1 : Room 1 _ := hr.mono (by decide : 1 ≤ 6)
    have cl : ∀ m ∈ [l], ∀ c ∈ m, c < 1114112 := fun m hm => by
      have e : m = l := by simpa using hm
      rw [e]
      exact hch
    have hr_Piece_named : Room 3 _ := hr.mono (by decide : 3 ≤ 6)
    have hr__law_is_name : Room 2 _ := hr.mono (by decide : 2 ≤ 6)
    have hr_holes : Room (1 + 3 + 1) _ := hr.mono (by decide : 5 ≤ 6)
    refine ⟨_, ((pss_cons (ps_set (i := 1) sc__law_taken.nd rfl (Or.inl rfl) pe_non)
 (pss_cons (ps_set (i := 2) sc__law_taken.nd rfl (Or.inl rfl) pe_non)
 (pss_cons (ps_try_as (i := 3) rfl rfl sc__law_taken.nd rfl rfl ⟨rfl, by decide, Or.inl T.g_NoName⟩ takes0 (fun W pn xe tk _ => (pss_one (ps_set (i := 1) sc__law_taken.nd rfl (Or.inl rfl) (pe_smethA G_Piece_named hr_Piece_named T.sm_Piece_named T.F_Piece_named.kp T.b_Piece_named (fun σ => passAt tk σ) rfl T.g_Piece (pa_cons (pv 0) pa_nil))))) (fun a oe cls d pn hz hf => (pss_one (ps_set (i := 2) sc__law_taken.nd rfl (Or.inl rfl) (pe_lst (pa_cons (pe_xf T.xf_NoName T.na_NoName_name hz hf (pv 3)) pa_nil))))))
 (pss_cons (ps_if (pt_val (pe_call G__law_is_name hr__law_is_name rfl T.g__law_is_name T.F__law_is_name.kp T.b__law_is_name .nil pass0 (pa_cons (pv 0) pa_nil))) (pss_one (ps_ret (pe_and (pe_cmpR op_isN1 (pv 2) pe_non (nomark _)) (pe_one (pe_cmpR (op_eqD hr1.units) (pe_prop (pv 1) T.o_Piece.cl PH G_holes hr_holes T.b_Piece_holes .nil pass0 rfl) (pe_lst (pa_cons (pv 0) pa_nil)) (nomark _)))))) pss_nil)
 (pss_one (ps_ret (pe_cmpR (op_eqD hr1.units) (pv 2) (pe_lst (pa_cons (pv 0) pa_nil)) (nomark _))))))))), ?_⟩
    walk_at "tx"
    refine ⟨l, rfl, hl, fun g p H1 e1 hp => ?_, fun g d H1 nd e1 hd => ⟨true, T.em_NoName, fun _ ae nae => ?_, fun z => nomatch z⟩⟩
    · walk_at "tx"
      refine c_isName hl hch fun H2 e2 => ?_
      rw [decide_eq_true g]
      walk_at "tx"
      refine r_prop (hp.up e2) ?_
      refine c_holes (hp.up e2) (by simp [dep]) (by simp [names]) fun zs p3 H3 e3 np3 nd3 hm hs u3 => ?_
      have ez : zs = [l] := by
        have h1 : ∀ a, a ∈ zs ↔ a = l := fun a => by rw [hm]; simp [names]
        match zs, nd3, h1 with
        | [], _, h1 => exact absurd ((h1 l).mpr rfl) (by simp)
        | [a], _, h1 => have : a = l := (h1 a).mp (by simp)
                        rw [this]
        | a :: b :: r, nd3, h1 =>
          have ea := (h1 a).mp (by simp)
          have eb := (h1 b).mp (by simp)
          rw [ea, eb] at nd3
          simp at nd3
      subst ez
      walk_at "tx"
      refine n_lst (by show 1 ≤ 100000; decide) fun p4 H4 _ e4 u4 => ?_
      refine eq_one (as := [l]) (bs := [l]) (SqL.of (e4 _ _ u3)) (SqL.of u4) cl cl ?_
      rw [decide_eq_true rfl]
      exact k _ (((e1.t e2).t e3).t e4)
    · walk_at "tx"
      refine n_xf hd lk_1 ?_
      walk_at "tx"
      refine n_lst (by show 1 ≤ 100000; decide) fun p2 H2 _ e2 u2 => ?_
      walk_at "tx"
      refine c_isName hl hch fun H3 e3 => ?_
      rw [decide_eq_false g]
      walk_at "tx"
      refine n_lst (by show 1 ≤ 100000; decide) fun p4 H4 _ e4 u4 => ?_
      refine eq_one (as := [l]) (bs := [l]) (SqL.of (e4 _ _ (e3 _ _ u2))) (SqL.of u4) cl cl ?_
      rw [decide_eq_true rfl]
      exact k _ (((e1.t e2).t e3).t e4)
def spUnlike (K : PySem.W.Frag) : Sp := fun vs H Q _ => ∃ (a : Addr) (ls : List (List Nat)), vs = [.ref a] ∧ SqL K H a (ls.map strV) ∧ ls.length < 64 ∧ ∀ (zs : List (List Nat)) p H', Ext H H' → H p = none → zs.Nodup → (∀ l, l ∈ zs ↔ l ∈ ls) → zs.Pairwise (fun a b => ¬ b < a) → H' p = some (.lst (zs.map strV)) → Q (.ref p) H'
theorem c_unlike {a : Addr} {ls : List (List Nat)} {H : Hp} {Q : VK} {E : XK} (h : SqL K H a (ls.map strV)) (h64 : ls.length < 64) (k : ∀ (zs : List (List Nat)) p H', Ext H H' → H p = none → zs.Nodup → (∀ l, l ∈ zs ↔ l ∈ ls) → zs.Pairwise (fun a b => ¬ b < a) → H' p = some (.lst (zs.map strV)) → Q (.ref p) H') : spUnlike K [.ref a] H Q E := ⟨a, ls, rfl, h, h64, k⟩
theorem ok__law_unlike (T : Tx K mg) : FnOk P w K mg base CX0 1 T.a__law_unlike T.d__law_unlike ["_law_names"] (spUnlike K) := by
  refine T.F__law_unlike.ok sc__law_unlike (fun vs H Q E h => ?_) (fun cdv A outer s H vs Q E hr h => ?_)
  · obtain ⟨a, ls, rfl, _⟩ := h
    rfl
  · obtain ⟨a, ls, rfl, hl, h64, k⟩ := h
    refine ⟨_, ((pss_cons (ps_set (i := 1) sc__law_unlike.nd rfl (Or.inl rfl) (pe_lst pa_nil))
 (pss_cons (ps_for PassesOwn.never rfl (pi_list (pe_callB cr_sortedS (by rfl) T.n_sorted boot_sorted (pa_cons (pe_lc (own := [("_law_name_here", 2)]) (g := gName 2) (by rfl) sc__law_unlike.nd (pi_list (pv 0)) (blkOk_by (own := [("_law_name_here", 2)]) (N := ["_law_names", "_law_out", "_law_name_here"]) (sc := defScope s__law_unlike) (by decide +kernel)) (fun _ _ _ _ _ => pg_name (i := 2) sc__law_unlike.nd rfl (Or.inl rfl)) (fun _ _ _ _ _ => pts_nil) (fun _ _ _ _ _ => (pe_callTy (r := rStrT) call_strT (by rfl) T.n_str boot_str (pa_cons (pv 2) pa_nil)))) pa_nil))) (pg_name (i := 2) sc__law_unlike.nd rfl (Or.inl rfl)) (pss_one (ps_if (pt_cmpR op_notInSeq (pv 2) (pv 1) (by rfl)) (pss_one (ps_expr (pe_bm PySem.F.plainAttrs_list PySem.F.slot_list_append PySem.F.type_list_append mt_append (pv 1) (pa_cons (pv 2) pa_nil)))) pss_nil)))
 (pss_one (ps_ret (pv 1)))))), ?_⟩
    walk_at "tx"
    refine n_lst (by decide) fun po H1 npo e1 u1 => ?_
    have hl := e1.seq hl
    walk_at "tx"
    refine ⟨a, rfl, ⟨_, hl⟩, fun D nD => lc_list (K := K) (a := a) (xs := ls.map strV) (fun i H' => Ext H1 H' ∧ H' D = some (.lst ((ls.take i).map strV))) ⟨Ext.new nD, upd_same⟩ (fun i H' _ h => h.1.seq hl) ?_ ?_⟩
    · rintro i z H' hi ⟨e, hD⟩
      rw [List.getElem?_map] at hi
      obtain ⟨l, hl', rfl⟩ := Option.map_eq_some_iff.mp hi
      have ilt : i < ls.length := (List.getElem?_eq_some_iff.mp hl').1
      refine w_gname ⟨rfl, ?_⟩
      walk_at "tx"
      refine w_strT ?_
      refine ⟨_, hD, by rw [List.length_map, sizeLine_eq]; have := List.length_take_le i ls; omega, Ext.mut e nD, ?_⟩
      rw [upd_same, List.take_add_one, hl', List.map_append]
      rfl
    · rintro H2 ⟨e2, hD⟩
      rw [List.length_map, List.take_length] at hD
      walk_at "tx"
      have hL : ls.map strV = (ls.map S).map V.str := by rw [List.map_map]; rfl
      rw [hL] at hD
      refine ⟨D, ls.map S, rfl, SqL.of hD, by rw [List.length_map]; exact h64, fun ys p perm srt np => ?_⟩
      have ez : (ys.map fun s => s.cps.toList).map S = ys := by
        rw [List.map_map]
        conv => rhs; rw [← List.map_id ys]
        exact List.map_congr_left fun s _ => S_tl s
      have pz : (ys.map fun s => s.cps.toList).Perm ls := by
        have := perm.map fun s : Str => s.cps.toList
        rw [List.map_map] at this
        have e2 : ls.map ((fun s : Str => s.cps.toList) ∘ S) = ls := by
          conv => rhs; rw [← List.map_id ls]
          exact List.map_congr_left fun l _ => rfl
        rw [e2] at this
        exact this
      have el : (ys.map V.str) = (ys.map fun s => s.cps.toList).map strV := by
        conv => lhs; rw [← ez]
        rw [List.map_map]
        rfl
      rw [el]
      generalize hzz : (ys.map fun s => s.cps.toList) = zs at ez pz
      have pw : zs.Pairwise (fun a b => ¬ b < a) := sortS_pw (by rw [ez]; exact srt)
      have zl : zs.length < 64 := by rw [pz.length_eq]; exact h64
      have u1' := e2 _ _ u1
      have npp : po ≠ p := fun z => by rw [z] at u1'; rw [u1'] at np; cases np
      have e3 : Ext H (upd H2 p (.lst (zs.map strV))) := (e1.t e2).t (Ext.new np)
      have u3 : upd H2 p (.lst (zs.map strV)) p = some (.lst (zs.map strV)) := upd_same
      have uo : upd H2 p (.lst (zs.map strV)) po = some (.lst []) := by rw [upd_ne npp]; exact u1'
      generalize upd H2 p (.lst (zs.map strV)) = H3 at e3 u3 uo
      refine ⟨p, rfl, ⟨_, SqL.of u3⟩, for_list (K := K) (a := p) (xs := zs.map strV) (fun i σ' H' => (∃ v, σ' = [some (.ref a), some (.ref po), v]) ∧ Ext H H' ∧ H' p = some (.lst (zs.map strV)) ∧ ∃ out : List (List Nat), H' po = some (.lst (out.map strV)) ∧ out.Sublist (zs.take i) ∧ out.Nodup ∧ (∀ l, l ∈ out ↔ l ∈ zs.take i))
        ⟨⟨_, rfl⟩, e3, u3, [], uo, List.Sublist.refl _, List.nodup_nil, fun l => by simp⟩ (fun i σ' H' _ h => SqL.of h.2.2.1) ?_ ?_⟩
      · rintro i z σ' H' hi ⟨⟨v, rfl⟩, e, up, out, uo, hs, hnd, hm⟩
        rw [List.getElem?_map] at hi
        obtain ⟨l, hl', rfl⟩ := Option.map_eq_some_iff.mp hi
        have tk : zs.take (i + 1) = zs.take i ++ [l] := by rw [List.take_add_one, hl']; rfl
        walk_at "tx"
        refine ⟨po, _, rfl, .inl (SqL.of uo), rfl, by rw [List.all_map]; exact List.all_eq_true.mpr fun _ _ => rfl, ?_⟩
        show ∃ k, V.bl (!inV (strV l) (out.map strV)) = .bl k ∧ _
        rw [inV_strs]
        refine ⟨_, rfl, ?_⟩
        refine i_ndec (fun hin => ?_) (fun hin => ?_)
        · walk_at "tx"
          refine ⟨⟨_, rfl⟩, e, up, out, uo, ?_, hnd, fun a => ?_⟩
          · rw [tk]
            exact hs.trans (List.sublist_append_left _ _)
          · rw [tk, List.mem_append, ← hm]
            constructor
            · exact .inl
            · rintro (h | h)
              · exact h
              · have : a = l := by simpa using h
                rw [this]; exact hin
        · walk_at "tx"
          refine ⟨.inl ⟨rfl, _, SqL.of uo⟩, ?_⟩
          walk_at "tx"
          have lo : out.length ≤ 64 := by have h1 := hs.length_le; have h2 := List.length_take_le' i zs; omega
          refine w_app uo (by rw [List.length_map]; omega) ?_
          walk_at "tx"
          refine ⟨⟨_, rfl⟩, Ext.mut e npo, by rw [upd_ne (Ne.symm npp)]; exact up, out ++ [l], by rw [upd_same, List.map_append]; rfl, ?_, ?_, fun a => ?_⟩
          · rw [tk]
            exact hs.append (List.Sublist.refl _)
          · rw [List.nodup_append]
            exact ⟨hnd, by simp, fun a ha b hb => by
              have eb : b = l := by simpa using hb
              rw [eb]
              rintro rfl
              exact hin ha⟩
          · rw [tk, List.mem_append, List.mem_append, ← hm]
      · rintro σ' H' ⟨⟨v, rfl⟩, e, up, out, uo, hs, hnd, hm⟩
        rw [List.length_map, List.take_length] at hs hm
        walk_at "tx"
        exact k out po H' e npo hnd (fun l => (hm l).trans pz.mem_iff) (pw.sublist hs) uo
end
end AT
namespace AT
open PySem PySem.Spec PyProof.Rows L2 SX
section
variable {P : Program} {w : World} {K : PySem.W.Frag} {mg : Str → Option Value} {base : Heap}
theorem c_rowE {c : Int} {l : Addr} {ss : List Int} {H : Hp} {Q : VK} {E : XK} (hl : SqL K H l (ss.map V.int)) (hz : ss.length ≤ 63) (hs : ∀ s ∈ ss, 0 < s ∧ s < 1073741824)
    (h : ∀ p ns H', Ext H H' → SqL K H' p (ns.map V.int) → RowOk ss ns → Q (.ref p) H') : spRow K [.int c, .ref l] H Q E := c_row hl hz hs fun p ns n r => h p ns _ (Ext.new n) (SqL.of upd_same) r
theorem c_spoilt {l : List Nat} {kd pl ks : Int} {H : Hp} {Q : VK} {E : XK} (hl : l.length ≤ 4500) (hc : ∀ c ∈ l, c < 1114112) (k : ∀ m : List Nat, m.length ≤ 5000 → (∀ c ∈ m, c < 1114112) → Q (.str (S m)) H) : spSpoilt [.str (S l), .int kd, .int pl, .int ks] H Q E := ⟨l, kd, pl, ks, rfl, hl, hc, k⟩
theorem c_name {r : Addr} {k0 : Int} {ks : List Int} {H : Hp} {Q : VK} {E : XK} (hl : SqL K H r (.int k0 :: ks.map V.int)) (h8 : ks.length = 8) (hk : ∀ k ∈ ks, 0 ≤ k ∧ k < 26) (k : ∀ (l : List Nat) H', Ext H H' → GoodName l → Q (.str (S l)) H') : spName K [.ref r, .int 0] H Q E := ⟨r, k0, ks, rfl, hl, h8, hk, k⟩
theorem good_ch {l : List Nat} (h : GoodName l) : l.length ≤ 8 ∧ ∀ c ∈ l, c < 1114112 := ⟨h.2.1, fun c hc => by
  have := h.2.2.2 c hc
  have : ∀ c ∈ az, c < 1114112 := by decide
  exact this c (h.2.2.2 c hc)⟩
theorem w_rep {l : Addr} {k : Int} {xs : List V} {H : Hp} {Q : VK} (hl : H l = some (.lst xs)) (h0 : 0 ≤ k) (h1 : k ≤ 1000) (hx : xs.length ≤ 1000) (q : ∀ p H', Ext H H' → H' p = some (.lst (List.replicate k.toNat xs).flatten) → Q (.ref p) H') : rRep (.ref l) (.int k) H Q := by
  have hm : xs.length * k.toNat ≤ 1000 * 1000 := Nat.mul_le_mul hx (by omega)
  exact ⟨l, k, xs, rfl, rfl, hl, by omega, by omega, by rw [sizeLine_eq]; omega, fun p np => q p _ (Ext.new np) upd_same⟩
theorem w_cat {l b : Addr} {xs ys : List V} {H : Hp} {Q : VK} (hl : H l = some (.lst xs)) (hb : H b = some (.lst ys)) (hx : xs.length + ys.length ≤ 100000) (q : ∀ p H', Ext H H' → H' p = some (.lst (xs ++ ys)) → Q (.ref p) H') : rCat (.ref l) (.ref b) H Q := ⟨l, b, xs, ys, rfl, rfl, hl, hb, by rw [sizeLine_eq]; omega, fun p np => q p _ (Ext.new np) upd_same⟩
theorem r_pm {C CM : Addr} {m : Str} {R : Prop} {v : V} {t : Tr} {H : Hp} (hm : (m == ("tree" : Str)) = false) (h : PcA K C CM H v t) (k : R) : ∃ a dx fs, v = .ref a ∧ H a = some (.ins C dx fs) ∧ List.lookup m fs = none ∧ R := by
  obtain ⟨p, dx, y, rfl, z, ta⟩ := h
  exact ⟨p, dx, _, rfl, z, by unfold pcF; rw [List.lookup_cons, hm]; rfl, k⟩
theorem r_neg {C CM : Addr} {v : V} {a : Tr} {H : Hp} {Q : VK} {E : XK} (h : PcA K C CM H v a) (k : ∀ p H', Ext H H' → PcA K C CM H' (.ref p) (.mirror a) → Q (.ref p) H') : rUnIns C (sp_neg K C CM) E v H Q := by
  obtain ⟨p, dx, y, rfl, z, ta⟩ := id h
  exact ⟨p, dx, _, rfl, z, _, a, rfl, h, k⟩
theorem mem4 (l a b c : List Nat) : l ∈ [a, b, c, b] ↔ l ∈ [a, b, c] := by
  simp only [List.mem_cons, List.not_mem_nil, or_false]
  constructor
  · rintro (h | h | h | h) <;> simp [h]
  · rintro (h | h | h) <;> simp [h]
theorem w_meth {C : Addr} {m : Str} {sp : Sp} {dvs : List V} {E : XK} {ta : TE} {t : TA} {σ : L2.St} {H : Hp} {Q : VK} (h : ta σ H fun x H1 => ∃ a dx fs, x = .ref a ∧ H1 a = some (.ins C dx fs) ∧ fs.lookup m = none ∧ t σ H1 fun vs H2 => sp (x :: (vs ++ dvs)) H2 Q E) : tMeth C m sp dvs E ta t σ H Q := h
theorem bn_small {i : Int} (h : i = 0 ∨ i = 1) : Bn 3900 i := by
  rcases h with rfl | rfl <;> decide
def spLaw (K : PySem.W.Frag) : Sp := fun vs H Q _ => ∃ (a : Addr) (ns : List Int), vs = [.ref a] ∧ SqL K H a (ns.map V.int) ∧ ns.length ≤ 63 ∧ ∀ H', Q (.bl true) H'
theorem ok_law (T : Tx K mg) (hw : T.PR = w.params) : FnOk P w K mg base CX0 10 T.a_law T.d_law ["_law_script"] (spLaw K) := by
  refine T.F_law.ok sc_law (fun vs H Q E h => ?_) (fun cdv A outer s H vs Q E hr h => ?_)
  · obtain ⟨a, ns, rfl, _⟩ := h
    rfl
  · obtain ⟨a, ns, rfl, l, hz, q⟩ := h
    have G__law_cell : FnOk P w K mg base CX0 1 T.a__law_cell T.d__law_cell ["_law_script", "_law_k"] (spCell K) := ok__law_cell T
    have G__law_row : FnOk P w K mg base CX0 1 T.a__law_row T.d__law_row ["_law_cell_here", "_law_sizes"] (spRow K) := ok__law_row T
    have G__law_name : FnOk P w K mg base CX0 1 T.a__law_name T.d__law_name ["_law_row_here", "_law_at"] (spName K) := ok__law_name T
    have G__law_spoilt : FnOk P w K mg base CX0 2 T.a__law_spoilt T.d__law_spoilt ["_law_text", "_law_kind", "_law_place", "_law_k"] spSpoilt := ok__law_spoilt T
    have G__law_taken : FnOk P w K mg base CX0 7 T.a__law_taken T.d__law_taken ["_law_text"] spTaken := ok__law_taken T hw
    have G__law_unlike : FnOk P w K mg base CX0 1 T.a__law_unlike T.d__law_unlike ["_law_names"] (spUnlike K) := ok__law_unlike T
    have G_Piece_named : FnOk P w K mg base (L2.CX P w) 3 T.a_Piece_named T.d_Piece_named ["name"] (spNamed K T.C_Piece T.C_Moment T.C_NoName) := ok_Piece_named T
    have G_Piece_silence : FnOk P w K mg base CX0 3 T.a_Piece_silence T.d_Piece_silence [] (sp_sil K T.C_Piece T.C_Moment) := ok_Piece_silence T
    have G_Piece_only : FnOk P w K mg base CX0 6 T.a_Piece_only T.d_Piece_only ["self", "begin", "end", "rounds"] (sp_only K T.C_Piece T.C_Moment) := ok_Piece_only T
    have G_Piece_every : FnOk P w K mg base CX0 3 T.a_Piece_every T.d_Piece_every ["self", "step", "other", "first"] (sp_every K T.C_Piece T.C_Moment) := ok_Piece_every T
    have G_Piece_nth : FnOk P w K mg base CX0 3 T.a_Piece_nth T.d_Piece_nth ["self", "index", "step"] (sp_nth K T.C_Piece T.C_Moment) := ok_Piece_nth T
    have G_or : FnOk P w K mg base CX0 3 T.a_Piece___or__ T.d_Piece___or__ ["self", "other"] (sp_or K T.C_Piece T.C_Moment) := ok_Piece___or__ T
    have G_sub : FnOk P w K mg base CX0 3 T.a_Piece___sub__ T.d_Piece___sub__ ["self", "other"] (sp_sub K T.C_Piece T.C_Moment) := ok_Piece___sub__ T
    have G_neg : FnOk P w K mg base CX0 3 T.a_Piece___neg__ T.d_Piece___neg__ ["self"] (sp_neg K T.C_Piece T.C_Moment) := ok_Piece___neg__ T
    have G_add : FnOk P w K mg base CX0 3 T.a_Piece___add__ T.d_Piece___add__ ["self", "other"] (sp_addI K T.C_Piece T.C_Moment) := ok_Piece___add__ T
    have G_lshift : FnOk P w K mg base CX0 7 T.a_Piece___lshift__ T.d_Piece___lshift__ ["self", "other"] (sp_lshift K T.C_Piece T.C_Moment) := ok_Piece___lshift__ T
    have G_turns : FnR P w K mg base CX0 3 T.a_turns (spTurns K T.C_Piece T.C_Moment) := ok_turns T
    have G_holes : FnOk P w K mg base CX0 (5 + 3) T.a_Piece_holes T.d_Piece_holes ["self"] (spHoles0 K T.C_Piece T.C_Moment 5) := ok_Piece_holes T hw 5
    obtain ⟨ph, PH⟩ := T.pr_Piece_holes
    obtain ⟨dE, VE, BE⟩ := every_binds T
    obtain ⟨dO, VO, BO⟩ := only_binds T
    have hr1 : Room 1 _ := hr.mono (by decide : 1 ≤ 9)
    have hr3 : Room 3 _ := hr.mono (by decide : 3 ≤ 9)
    have hr__law_cell := hr1
    have hr__law_row := hr1
    have hr__law_name := hr1
    have hr__law_unlike := hr1
    have hr__law_spoilt : Room 2 _ := hr.mono (by decide : 2 ≤ 9)
    have hr__law_taken : Room 7 _ := hr.mono (by decide : 7 ≤ 9)
    have hr_lshift : Room 7 _ := hr.mono (by decide : 7 ≤ 9)
    have hr_Piece_only : Room 6 _ := hr.mono (by decide : 6 ≤ 9)
    have hr_Piece_named := hr3
    have hr_Piece_silence := hr3
    have hr_Piece_every := hr3
    have hr_Piece_nth := hr3
    have hr_turns := hr3
    have hr_holes : Room (5 + 3 + 1) _ := hr
    refine ⟨_, ((Evl.pss_cut (ps_setLc (i := 1) (own := [("_law_k", 2)]) (g := gName 2) (by rfl) sc_law.nd rfl rfl (sw_true rfl rfl rfl (by decide +kernel)) (pi_range1 rfl T.n_range (pa_cons pe_int pa_nil)) (blkOk_by (own := [("_law_k", 2)]) (N := ["_law_script", "_law_names", "_law_k", "_law_row_here", "_law_text", "_law_one", "_law_two", "_law_three", "_law_piece", "_law_due", "_law_told", "_law_kept"]) (sc := defScope s_law) (by decide +kernel)) (fun _ _ _ _ _ => pg_name (i := 2) sc_law.nd rfl (Or.inl rfl)) (fun _ _ _ _ _ => pts_nil) (fun _ _ _ _ _ => (pe_call G__law_name hr__law_name rfl T.g__law_name T.F__law_name.kp T.b__law_name .nil pass0 (pa_cons (pe_call G__law_row hr__law_row rfl T.g__law_row T.F__law_row.kp T.b__law_row .nil pass0 (pa_cons (pe_call G__law_cell hr__law_cell rfl T.g__law_cell T.F__law_cell.kp T.b__law_cell .nil pass0 (pa_cons (pv 0) (pa_cons (pv 2) pa_nil))) (pa_cons (pe_op op_cat (pe_lst (pa_cons pe_int pa_nil)) (pe_op op_rep (pe_lst (pa_cons pe_int pa_nil)) pe_int)) pa_nil))) (pa_cons pe_int pa_nil)))))
 (pss_cons (ps_set (i := 3) sc_law.nd rfl (Or.inl rfl) (pe_call G__law_row hr__law_row rfl T.g__law_row T.F__law_row.kp T.b__law_row .nil pass0 (pa_cons (pe_call G__law_cell hr__law_cell rfl T.g__law_cell T.F__law_cell.kp T.b__law_cell .nil pass0 (pa_cons (pv 0) (pa_cons pe_int pa_nil))) (pa_cons (pe_lst (pa_cons pe_int (pa_cons pe_int (pa_cons pe_int (pa_cons pe_int (pa_cons pe_int (pa_cons pe_int pa_nil))))))) pa_nil))))
 (pss_cons (ps_set (i := 4) sc_law.nd rfl (Or.inl rfl) (pe_call G__law_spoilt hr__law_spoilt rfl T.g__law_spoilt T.F__law_spoilt.kp T.b__law_spoilt .nil pass0 (pa_cons (pe_ix ix_list (pv 1) pe_int (fun _ _ => rfl)) (pa_cons (pe_ix ix_list (pv 3) pe_int (fun _ _ => rfl)) (pa_cons (pe_ix ix_list (pv 3) pe_int (fun _ _ => rfl)) (pa_cons (pe_ix ix_list (pv 3) pe_int (fun _ _ => rfl)) pa_nil))))))
 (Evl.pss_cut (ps_if (pt_cmpR op_eq (pe_ix ix_list (pv 3) pe_int (fun _ _ => rfl)) pe_int (nomark _)) (pss_one (ps_set (i := 4) sc_law.nd rfl (Or.inl rfl) (pe_strS (l := [115, 101, 108, 102]) (by decide +kernel)))) pss_nil)
 (Evl.pss_cut (ps_if (pt_cmpR op_eq (pe_ix ix_list (pv 3) pe_int (fun _ _ => rfl)) pe_int (nomark _)) (pss_one (ps_set (i := 4) sc_law.nd rfl (Or.inl rfl) (pe_strS (l := []) (by decide +kernel)))) pss_nil)
 (Evl.pss_cut (ps_if (pt_cmpR op_eq (pe_ix ix_list (pv 3) pe_int (fun _ _ => rfl)) pe_int (nomark _)) (pss_one (ps_set (i := 4) sc_law.nd rfl (Or.inl rfl) (pe_op op_catT (pe_op op_catT (pe_ix ix_list (pv 1) pe_int (fun _ _ => rfl)) (pe_ix ix_list (pv 1) pe_int (fun _ _ => rfl))) (pe_strS (l := [97]) (by decide +kernel))))) pss_nil)
 (pss_cons (ps_if (PW.pt (pw_or (pt_not (pt_val (pe_call G__law_taken hr__law_taken rfl T.g__law_taken T.F__law_taken.kp T.b__law_taken .nil pass0 (pa_cons (pv 4) pa_nil)))) (pw_or (pt_not (pt_val (pe_call G__law_taken hr__law_taken rfl T.g__law_taken T.F__law_taken.kp T.b__law_taken .nil pass0 (pa_cons (pv 4) pa_nil)))) (pw_or1 (pt_not (pt_val (pe_call G__law_taken hr__law_taken rfl T.g__law_taken T.F__law_taken.kp T.b__law_taken .nil pass0 (pa_cons (pe_ix ix_list (pv 1) pe_int (fun _ _ => rfl)) pa_nil)))))))) (pss_one (ps_ret pe_bl)) pss_nil)
 (pss_cons (ps_set (i := 5) sc_law.nd rfl (Or.inl rfl) (pe_smeth G_Piece_named hr_Piece_named T.sm_Piece_named T.F_Piece_named.kp T.b_Piece_named passL rfl T.g_Piece (pa_cons (pe_ix ix_list (pv 1) (pe_ix ix_list (pv 3) pe_int (fun _ _ => rfl)) (fun _ _ => rfl)) pa_nil)))
 (pss_cons (ps_set (i := 6) sc_law.nd rfl (Or.inl rfl) (pe_smeth G_Piece_named hr_Piece_named T.sm_Piece_named T.F_Piece_named.kp T.b_Piece_named passL rfl T.g_Piece (pa_cons (pe_ix ix_list (pv 1) pe_int (fun _ _ => rfl)) pa_nil)))
 (pss_cons (ps_set (i := 7) sc_law.nd rfl (Or.inl rfl) (pe_smeth G_Piece_named hr_Piece_named T.sm_Piece_named T.F_Piece_named.kp T.b_Piece_named passL rfl T.g_Piece (pa_cons (pe_ix ix_list (pv 1) pe_int (fun _ _ => rfl)) pa_nil)))
 (pss_cons (ps_set (i := 8) sc_law.nd rfl (Or.inl rfl) (pe_callR G_turns hr_turns T.F_turns.kp rfl T.g_turns pass0 (pa_cons (pe_op (op_own2 T.o_Piece T.m_Piece___or__ dn_or G_or hr3 T.b_Piece___or__ pass0) (pv 5) (pv 6)) (pa_cons (pe_smeth0 G_Piece_silence hr_Piece_silence T.sm_Piece_silence T.F_Piece_silence.kp T.b_Piece_silence pass0 rfl T.g_Piece) (pa_cons (pe_meth (pv 7) T.o_Piece.cl T.mt_Piece_every G_Piece_every hr_Piece_every BE VE pass0 (pa_cons pe_int (pa_cons (pe_op (op_ins T.o_Piece T.io_Piece_lshift G_lshift hr_lshift T.b_Piece___lshift__ pass0) (pv 6) pe_int) pa_nil))) pa_nil)))))
 (Evl.pss_cut (ps_if (pt_cmpR op_eq (pe_ix ix_list (pv 3) pe_int (fun _ _ => rfl)) pe_int (nomark _)) (pss_one (ps_set (i := 8) sc_law.nd rfl (Or.inl rfl) (pe_op (op_ins T.o_Piece T.io_Piece_add G_add hr3 T.b_Piece___add__ pass0) (pe_meth (pe_op (op_own2 T.o_Piece T.m_Piece___sub__ dn_sub G_sub hr3 T.b_Piece___sub__ pass0) (pe_un (un_negIns T.m_Piece___neg__ G_neg hr3 T.b_Piece___neg__ pass0) (pv 7)) (pv 6)) T.o_Piece.cl T.mt_Piece_only G_Piece_only hr_Piece_only BO VO pass0 (pa_cons pe_int (pa_cons pe_int pa_nil))) pe_int))) pss_nil)
 (Evl.pss_cut (ps_if (pt_cmpR op_eq (pe_ix ix_list (pv 3) pe_int (fun _ _ => rfl)) pe_int (nomark _)) (pss_one (ps_set (i := 8) sc_law.nd rfl (Or.inl rfl) (pe_meth (pv 6) T.o_Piece.cl T.mt_Piece_every G_Piece_every hr_Piece_every BE VE pass0 (pa_cons pe_int (pa_cons (pe_meth (pv 5) T.o_Piece.cl T.mt_Piece_nth G_Piece_nth hr_Piece_nth T.b_Piece_nth .nil pass0 (pa_cons pe_int (pa_cons pe_int pa_nil))) pa_nil))))) pss_nil)
 (pss_cons (ps_set (i := 9) sc_law.nd rfl (Or.inl rfl) (pe_ix ix_list (pe_lst (pa_cons (pe_lst (pa_cons (pe_ix ix_list (pv 1) (pe_ix ix_list (pv 3) pe_int (fun _ _ => rfl)) (fun _ _ => rfl)) (pa_cons (pe_ix ix_list (pv 1) pe_int (fun _ _ => rfl)) (pa_cons (pe_ix ix_list (pv 1) pe_int (fun _ _ => rfl)) pa_nil)))) (pa_cons (pe_lst (pa_cons (pe_ix ix_list (pv 1) pe_int (fun _ _ => rfl)) (pa_cons (pe_ix ix_list (pv 1) pe_int (fun _ _ => rfl)) pa_nil))) (pa_cons (pe_lst (pa_cons (pe_ix ix_list (pv 1) pe_int (fun _ _ => rfl)) (pa_cons (pe_ix ix_list (pv 1) (pe_ix ix_list (pv 3) pe_int (fun _ _ => rfl)) (fun _ _ => rfl)) pa_nil))) (pa_cons (pe_lst pa_nil) pa_nil))))) (pe_ix ix_list (pv 3) pe_int (fun _ _ => rfl)) (fun _ _ => rfl)))
 (Evl.pss_cut (ps_if (pt_cmpR op_eq (pe_ix ix_list (pv 3) pe_int (fun _ _ => rfl)) pe_int (nomark _)) (pss_one (ps_set (i := 8) sc_law.nd rfl (Or.inl rfl) (pe_smeth0 G_Piece_silence hr_Piece_silence T.sm_Piece_silence T.F_Piece_silence.kp T.b_Piece_silence pass0 rfl T.g_Piece))) pss_nil)
 (pss_cons (ps_set (i := 10) sc_law.nd rfl (Or.inl rfl) (pe_prop (pv 8) T.o_Piece.cl PH G_holes hr_holes T.b_Piece_holes .nil pass0 rfl))
 (pss_cons (ps_set (i := 11) sc_law.nd rfl (Or.inl rfl) (pe_callTy call_listN (by rfl) T.n_list boot_list (pa_cons (pv 10) pa_nil)))
 (pss_cons (ps_expr (pe_bm0 PySem.F.plainAttrs_list PySem.F.slot_list_clear PySem.F.type_list_clear mt_clear (pv 10)))
 (pss_one (ps_ret (pe_and (pe_cmpR (op_eqD hr1.units) (pv 11) (pe_call G__law_unlike hr__law_unlike rfl T.g__law_unlike T.F__law_unlike.kp T.b__law_unlike .nil pass0 (pa_cons (pv 9) pa_nil)) (nomark _)) (pe_one (pe_cmpR (op_eqD hr1.units) (pe_prop (pv 8) T.o_Piece.cl PH G_holes hr_holes T.b_Piece_holes .nil pass0 rfl) (pv 11) (nomark _))))))))))))))))))))))))), ?_⟩
    refine ⟨fun σ H' => Ext H H' ∧ ∃ pN n0 n1 n2, σ = [some (.ref a), some (.ref pN), none, none, none, none, none, none, none, none, none, none] ∧ H' pN = some (.lst [strV n0, strV n1, strV n2]) ∧ GoodName n0 ∧ GoodName n1 ∧ GoodName n2, ?_, ?_⟩
    · walk_at "tx"
      refine ⟨3, rfl, by decide, by decide, fun D nD => lc_range (lo := 0) (n := (3 : Int).toNat) (fun i H' => Ext H H' ∧ ∃ ls : List (List Nat), H' D = some (.lst (ls.map strV)) ∧ ls.length = i ∧ ∀ l ∈ ls, GoodName l) ⟨Ext.new nD, [], upd_same, rfl, fun l h => by cases h⟩ ?_ ?_⟩
      · rintro i H' hi ⟨e, ls, hD, hl, hg⟩
        have hi3 : i < 3 := hi
        refine w_gname ⟨rfl, ?_⟩
        walk_at "tx"
        refine w_yes ?_
        walk_at "tx"
        refine c_cell (e.seq l) (by omega) fun c => ?_
        walk_at "tx"
        refine n_lst (by show 1 ≤ 100000; decide) fun p1 H1 _ e1 u1 => ?_
        walk_at "tx"
        refine n_lst (by show 1 ≤ 100000; decide) fun p2 H2 _ e2 u2 => ?_
        walk_at "tx"
        refine w_rep u2 (by decide) (by decide) (by show 1 ≤ 1000; decide) fun p3 H3 e3 u3 => ?_
        walk_at "tx"
        refine w_cat (e3 _ _ (e2 _ _ u1)) u3 (by show 1 + 8 ≤ 100000; decide) fun p4 H4 e4 u4 => ?_
        walk_at "tx"
        refine c_rowE (ss := [8, 26, 26, 26, 26, 26, 26, 26, 26]) (SqL.of u4) (by decide) (by decide) fun r0 rows H5 e5 uR rk => ?_
        obtain ⟨k0, r1, rfl, a0, b0, rk⟩ := rk.cons
        have h8 : r1.length = 8 := rk.1
        have hk : ∀ k ∈ r1, 0 ≤ k ∧ k < 26 := fun k hk => by
          obtain ⟨j, hj⟩ := List.mem_iff_getElem?.mp hk
          have j8 : j < 8 := by rw [← h8]; exact (List.getElem?_eq_some_iff.mp hj).1
          have hs : ([26, 26, 26, 26, 26, 26, 26, 26] : List Int)[j]? = some 26 := by
            match j, j8 with
            | 0, _ | 1, _ | 2, _ | 3, _ | 4, _ | 5, _ | 6, _ | 7, _ => rfl
          obtain ⟨n, hn, n0, n1⟩ := rk.2 j 26 hs
          rw [hj] at hn
          cases hn
          exact ⟨n0, n1⟩
        walk_at "tx"
        refine c_name uR h8 hk fun nm H6 e6 g => ?_
        have e16 := ((((e1.t e2).t e3).t e4).t e5).t e6
        refine ⟨_, e16 _ _ hD, by rw [List.length_map, sizeLine_eq]; omega, Ext.mut (e.t e16) nD, ls ++ [nm], by rw [upd_same, List.map_append]; rfl, by simp [hl], fun m hm => ?_⟩
        rcases List.mem_append.mp hm with h | h
        · exact hg m h
        · have : m = nm := by simpa using h
          rw [this]
          exact g
      · rintro H' ⟨e, ls, hD, hl, hg⟩
        walk_at "tx"
        match ls, hl, hg with
        | [n0, n1, n2], _, hg => exact ⟨e, D, n0, n1, n2, rfl, hD, hg _ (by simp), hg _ (by simp), hg _ (by simp)⟩
    rintro σ H1 ⟨e1, pN, n0, n1, n2, rfl, uN, g0, g1, g2⟩
    walk_at "tx"
    refine c_cell (e1.seq l) (by decide) fun c3 => ?_
    walk_at "tx"
    refine n_lst (by decide) fun p1 H2 _ e2 u1 => ?_
    walk_at "tx"
    refine c_rowE (ss := [5, 12, 96, 12, 3, 4]) (SqL.of u1) (by decide) (by decide) fun r0 rows H3 e3 uR rk => ?_
    obtain ⟨k0, r1, rfl, a0, b0, rk⟩ := rk.cons
    obtain ⟨k1, r1, rfl, a1, b1, rk⟩ := rk.cons
    obtain ⟨k2, r1, rfl, a2, b2, rk⟩ := rk.cons
    obtain ⟨k3, r1, rfl, a3, b3, rk⟩ := rk.cons
    obtain ⟨k4, r1, rfl, a4, b4, rk⟩ := rk.cons
    obtain ⟨k5, rfl, a5, b5⟩ := rk.one
    change SqL K H3 r0 [.int k0, .int k1, .int k2, .int k3, .int k4, .int k5] at uR
    have uN : SqL K H3 pN [strV n0, strV n1, strV n2] := SqL.of (e3 _ _ (e2 _ _ uN))
    clear e1 e2 e3 u1 l
    obtain ⟨l0, ch0⟩ := good_ch g0
    obtain ⟨l1, ch1⟩ := good_ch g1
    obtain ⟨l2, ch2⟩ := good_ch g2
    walk_at "tx"
    refine c_spoilt (by omega) ch0 fun m lm cm => ?_
    walk_at "tx"
    refine ⟨fun σ H' => H3 = H' ∧ ∃ m : List Nat, σ = [some (.ref a), some (.ref pN), none, some (.ref r0), some (.str (S m)), none, none, none, none, none, none, none] ∧ m.length ≤ 5000 ∧ ∀ c ∈ m, c < 1114112, ?_, ?_⟩
    · walk_at "tx"
      refine i_dec (fun c => ?_) (fun c => ?_)
      · walk_at "tx"
        exact ⟨rfl, [115, 101, 108, 102], rfl, by decide, by decide⟩
      · walk_at "tx"
        exact ⟨rfl, m, rfl, lm, cm⟩
    clear lm cm
    rintro σ H' ⟨rfl, m, rfl, lm, cm⟩
    refine ⟨fun σ H' => H3 = H' ∧ ∃ m : List Nat, σ = [some (.ref a), some (.ref pN), none, some (.ref r0), some (.str (S m)), none, none, none, none, none, none, none] ∧ m.length ≤ 5000 ∧ ∀ c ∈ m, c < 1114112, ?_, ?_⟩
    · walk_at "tx"
      refine i_dec (fun c => ?_) (fun c => ?_)
      · walk_at "tx"
        exact ⟨rfl, [], rfl, by decide, by decide⟩
      · walk_at "tx"
        exact ⟨rfl, m, rfl, lm, cm⟩
    clear lm cm
    rintro σ H' ⟨rfl, m, rfl, lm, cm⟩
    refine ⟨fun σ H' => H3 = H' ∧ ∃ m : List Nat, σ = [some (.ref a), some (.ref pN), none, some (.ref r0), some (.str (S m)), none, none, none, none, none, none, none] ∧ m.length ≤ 5000 ∧ ∀ c ∈ m, c < 1114112, ?_, ?_⟩
    · walk_at "tx"
      refine i_dec (fun c => ?_) (fun c => ?_)
      · walk_at "tx"
        refine ⟨rfl, _, rfl, by simp; omega, fun c hc => ?_⟩
        rcases List.mem_append.mp hc with h | h
        · rcases List.mem_append.mp h with h | h
          · exact ch1 c h
          · exact ch2 c h
        · have : c = 97 := by simpa using h
          omega
      · walk_at "tx"
        exact ⟨rfl, m, rfl, lm, cm⟩
    clear lm cm
    rintro σ H' ⟨rfl, m, rfl, lm, cm⟩
    walk_at "tx"
    refine c_taken lm cm fun H4 e4 => ?_
    walk_at "tx"
    refine c_taken lm cm fun H5 e5 => ?_
    walk_at "tx"
    refine c_taken (by omega) ch1 fun H6 e6 => ?_
    walk_at "tx"
    have uN := e6.seq (e5.seq (e4.seq uN))
    have uR := e6.seq (e5.seq (e4.seq uR))
    clear e4 e5 e6
    obtain ⟨nk, hnk, gk⟩ : ∃ nk, atI [strV n0, strV n1, strV n2] k4 = some (strV nk) ∧ GoodName nk := by
      have : k4 = 0 ∨ k4 = 1 ∨ k4 = 2 := by omega
      rcases this with rfl | rfl | rfl
      · exact ⟨n0, rfl, g0⟩
      · exact ⟨n1, rfl, g1⟩
      · exact ⟨n2, rfl, g2⟩
    obtain ⟨lk, chk⟩ := good_ch gk
    refine w_ixL uN hnk ?_
    walk_at "tx"
    refine ⟨nk, rfl, by omega, fun _ p1 H7 e7 m1 => ?_, fun n => absurd gk n⟩
    have uN := e7.seq uN
    have uR := e7.seq uR
    walk_at "tx"
    refine ⟨n1, rfl, by omega, fun _ p2 H8 e8 m2 => ?_, fun n => absurd g1 n⟩
    have uN := e8.seq uN
    have uR := e8.seq uR
    walk_at "tx"
    refine ⟨n2, rfl, by omega, fun _ p3 H9 e9 m3 => ?_, fun n => absurd g2 n⟩
    have uN := e9.seq uN
    have uR := e9.seq uR
    have m1 := (m1.up e8).up e9
    have m2 := m2.up e9
    clear e7 e8 e9
    walk_at "tx"
    refine r_own2 m1 m2 ⟨_, _, _, _, rfl, m1, m2, fun p4 H10 e10 m4 => ?_⟩
    walk_at "tx"
    refine ⟨rfl, fun p5 H11 e11 m5 => ?_⟩
    walk_at "tx"
    refine r_pm (by decide) (m3.up (e10.t e11)) ?_
    walk_at "tx"
    refine r_ownI (m2.up (e10.t e11)) ⟨_, _, _, rfl, m2.up (e10.t e11), bn_small (.inr rfl), fun p6 H12 e12 m6 => ?_⟩
    walk_at "tx"
    refine ⟨_, _, _, _, _, _, rfl, (m3.up (e10.t e11)).up e12, m6, by decide, fun p7 H13 e13 m7 => ?_⟩
    walk_at "tx"
    refine c_turns (.cons ((m4.up e11).up (e12.t e13)) (.cons (m5.up (e12.t e13)) (.cons m7 .nil))) (by show 0 < 3; decide) (by show 3 ≤ 1000; decide) fun p8 H14 e14 m8 => ?_
    walk_at "tx"
    have eA := ((e10.t e11).t e12).t (e13.t e14)
    have uN := eA.seq uN
    have uR := eA.seq uR
    have m1 := m1.up eA
    have m2 := m2.up eA
    have m3 := m3.up eA
    clear eA m4 m5 m6 m7 e10 e11 e12 e13 e14
    refine ⟨fun σ H' => Ext H14 H' ∧ ∃ (p : Addr) (t : Tr), σ = [some (.ref a), some (.ref pN), none, some (.ref r0), some (.str (S m)), some (.ref p1), some (.ref p2), some (.ref p3), some (.ref p), none, none, none] ∧ PcA K T.C_Piece T.C_Moment H' (.ref p) t ∧ dep t ≤ 5 ∧ (names t).length ≤ 4 ∧ (k5 = 0 → names t = [nk, n1, n2, n1]) ∧ (k5 = 1 → names t = [n2, n1]), ?_, ?_⟩
    · walk_at "tx"
      refine i_dec (fun c => ?_) (fun c => ?_)
      · walk_at "tx"
        refine w_meth ?_
        walk_at "tx"
        refine r_neg m3 fun q1 G1 e1 w1 => ?_
        walk_at "tx"
        refine r_own2 w1 (m2.up e1) ⟨_, _, _, _, rfl, w1, m2.up e1, fun q2 G2 e2 w2 => ?_⟩
        walk_at "tx"
        refine r_pm (by decide) w2 ?_
        walk_at "tx"
        refine ⟨_, _, _, _, _, rfl, w2, bn_small (.inl rfl), bn_small (.inr rfl), by decide, by decide, by decide, by decide, fun q3 G3 e3 w3 => ?_⟩
        walk_at "tx"
        refine r_ownI w3 ⟨_, _, _, rfl, w3, fun q4 G4 e4 w4 => ?_⟩
        walk_at "tx"
        exact ⟨((e1.t e2).t e3).t e4, q4, _, rfl, w4, by simp [dep], by simp [names], fun z => by omega, fun _ => rfl⟩
      · walk_at "tx"
        exact ⟨fun _ _ e => e, p8, _, rfl, m8, by simp [dep, depL], by simp [names, namesL], fun _ => rfl, fun z => absurd z c⟩
    clear m8
    rintro σ G1 ⟨e1, p9, t1, rfl, w1, d1, l1', s0, s1⟩
    have uN := e1.seq uN
    have uR := e1.seq uR
    have m1 := m1.up e1
    have m2 := m2.up e1
    have m3 := m3.up e1
    clear e1
    refine ⟨fun σ H' => Ext G1 H' ∧ ∃ (p : Addr) (t : Tr), σ = [some (.ref a), some (.ref pN), none, some (.ref r0), some (.str (S m)), some (.ref p1), some (.ref p2), some (.ref p3), some (.ref p), none, none, none] ∧ PcA K T.C_Piece T.C_Moment H' (.ref p) t ∧ dep t ≤ 5 ∧ (names t).length ≤ 4 ∧ (k5 = 0 → names t = [nk, n1, n2, n1]) ∧ (k5 = 1 → names t = [n2, n1]) ∧ (k5 = 2 → names t = [n1, nk]), ?_, ?_⟩
    · walk_at "tx"
      refine i_dec (fun c => ?_) (fun c => ?_)
      · walk_at "tx"
        refine r_pm (by decide) m2 ?_
        walk_at "tx"
        refine r_pm (by decide) m1 ?_
        walk_at "tx"
        refine ⟨_, _, _, _, rfl, m1, by decide, fun q2 G2 e2 w2 => ?_⟩
        walk_at "tx"
        refine ⟨_, _, _, _, _, _, rfl, m2.up e2, w2, by decide, fun q3 G3 e3 w3 => ?_⟩
        walk_at "tx"
        exact ⟨e2.t e3, q3, _, rfl, w3, by simp [dep], by simp [names], fun z => by omega, fun z => by omega, fun _ => rfl⟩
      · walk_at "tx"
        exact ⟨fun _ _ e => e, p9, t1, rfl, w1, d1, l1', s0, s1, fun z => absurd z c⟩
    clear w1 d1 l1' s0 s1
    rintro σ G2 ⟨e1, p10, t1, rfl, w1, d1, l1', s0, s1, s2⟩
    have uN := e1.seq uN
    have uR := e1.seq uR
    clear e1 m1 m2 m3
    walk_at "tx"
    refine w_ixL uN hnk ?_
    walk_at "tx"
    refine n_lst (by show 3 ≤ 100000; decide) fun q1 G3 _ e1 v1 => ?_
    have uN := e1.seq uN
    have uR := e1.seq uR
    walk_at "tx"
    refine n_lst (by show 2 ≤ 100000; decide) fun q2 G4 _ e2 v2 => ?_
    have uN := e2.seq uN
    have uR := e2.seq uR
    walk_at "tx"
    refine w_ixL uN hnk ?_
    walk_at "tx"
    refine n_lst (by show 2 ≤ 100000; decide) fun q3 G5 _ e3 v3 => ?_
    have uN := e3.seq uN
    have uR := e3.seq uR
    walk_at "tx"
    refine n_lst (by decide) fun q4 G6 _ e4 v4 => ?_
    walk_at "tx"
    refine n_lst (by show 4 ≤ 100000; decide) fun q5 G7 _ e5 v5 => ?_
    have uR := e5.seq (e4.seq uR)
    have w1 := w1.up (((((e1.t e2).t e3).t e4).t e5))
    obtain ⟨qd, dl, hq, sd, hn3, h3, cd, ld⟩ : ∃ (qd : Addr) (dl : List (List Nat)), atI [V.ref q1, V.ref q2, V.ref q3, V.ref q4] k5 = some (.ref qd) ∧ SqL K G7 qd (dl.map strV) ∧ (k5 ≠ 3 → ∀ l, l ∈ names t1 ↔ l ∈ dl) ∧ (k5 = 3 → dl = []) ∧ (∀ l ∈ dl, ∀ c ∈ l, c < 1114112) ∧ dl.length ≤ 3 := by
      have : k5 = 0 ∨ k5 = 1 ∨ k5 = 2 ∨ k5 = 3 := by omega
      rcases this with rfl | rfl | rfl | rfl
      · refine ⟨q1, [nk, n1, n2], rfl, SqL.of (((((e2.t e3).t e4).t e5)) _ _ v1), fun _ l => s0 rfl ▸ mem4 l nk n1 n2, fun z => absurd z (by decide), fun l hl => ?_, (by show _ + 1 ≤ 3; simp)⟩
        rcases List.mem_cons.mp hl with rfl | hl
        · exact chk
        rcases List.mem_cons.mp hl with rfl | hl
        · exact ch1
        rcases List.mem_cons.mp hl with rfl | hl
        · exact ch2
        · cases hl
      · refine ⟨q2, [n2, n1], rfl, SqL.of (((e3.t e4).t e5) _ _ v2), fun _ l => s1 rfl ▸ Iff.rfl, fun z => absurd z (by decide), fun l hl => ?_, (by show _ + 1 ≤ 3; simp)⟩
        rcases List.mem_cons.mp hl with rfl | hl
        · exact ch2
        rcases List.mem_cons.mp hl with rfl | hl
        · exact ch1
        · cases hl
      · refine ⟨q3, [n1, nk], rfl, SqL.of ((e4.t e5) _ _ v3), fun _ l => s2 rfl ▸ Iff.rfl, fun z => absurd z (by decide), fun l hl => ?_, (by show _ + 1 ≤ 3; simp)⟩
        rcases List.mem_cons.mp hl with rfl | hl
        · exact ch1
        rcases List.mem_cons.mp hl with rfl | hl
        · exact chk
        · cases hl
      · exact ⟨q4, [], rfl, SqL.of (e5 _ _ v4), (fun z => absurd rfl z), (fun _ => rfl), (fun l hl => absurd hl (by simp)), by decide⟩
    walk_at "tx"
    refine w_ixL (SqL.of v5) hq ?_
    walk_at "tx"
    refine ⟨fun σ H' => Ext G7 H' ∧ ∃ (p : Addr) (t : Tr), σ = [some (.ref a), some (.ref pN), none, some (.ref r0), some (.str (S m)), some (.ref p1), some (.ref p2), some (.ref p3), some (.ref p), some (.ref qd), none, none] ∧ PcA K T.C_Piece T.C_Moment H' (.ref p) t ∧ dep t ≤ 5 ∧ (names t).length ≤ 4 ∧ ∀ l, l ∈ names t ↔ l ∈ dl, ?_, ?_⟩
    · walk_at "tx"
      refine i_dec (fun c => ?_) (fun c => ?_)
      · walk_at "tx"
        refine ⟨rfl, fun p11 G8 e6 w2 => ?_⟩
        walk_at "tx"
        exact ⟨e6, p11, _, rfl, w2, by simp [dep], by simp [names], fun l => by rw [h3 c]; simp [names]⟩
      · walk_at "tx"
        exact ⟨fun _ _ e => e, p10, t1, rfl, w1, d1, l1', hn3 c⟩
    clear w1 d1 l1' s0 s1 s2 hn3 h3 hq v1 v2 v3 v4 v5 e1 e2 e3 e4 e5
    rintro σ G8 ⟨e1, p11, t, rfl, w1, d1, l1', hd⟩
    have sd := e1.seq sd
    clear e1
    walk_at "tx"
    refine r_prop w1 ?_
    refine c_holes w1 d1 (by omega) fun zs pz G9 e1 npz nd hm pw uz => ?_
    walk_at "tx"
    refine ⟨pz, _, rfl, .inl (SqL.of uz), fun pk G10 e2 npk uk => ?_⟩
    walk_at "tx"
    have uz' := e2 _ _ uz
    refine ⟨.inl ⟨rfl, _, SqL.of uz'⟩, pz, _, rfl, rfl, uz', ?_⟩
    have npp : pk ≠ pz := fun z => by rw [z, uz] at npk; cases npk
    have e3 : Ext G8 (upd G10 pz (.lst [])) := Ext.mut (e1.t e2) npz
    have uk : upd G10 pz (.lst []) pk = some (.lst (zs.map strV)) := by rw [upd_ne npp]; exact uk
    generalize upd G10 pz (.lst []) = G11 at e3 uk
    have w2 := w1.up e3
    have sd := e3.seq sd
    clear uz uz' e1 e2 e3 npk npz
    have cz : ∀ l ∈ zs, ∀ c ∈ l, c < 1114112 := fun l hl => cd l ((hd l).mp ((hm l).mp hl))
    walk_at "tx"
    refine c_unlike sd (by omega) fun ys q6 G12 e4 nq ndy hmy pwy uy => ?_
    have e : zs = ys := uniq_sorted pw pwy nd ndy fun l => (hm l).trans ((hd l).trans (hmy l).symm)
    subst e
    walk_at "tx"
    refine eq_one (SqL.of (e4 _ _ uk)) (SqL.of uy) cz cz ?_
    rw [decide_eq_true rfl]
    walk_at "tx"
    refine r_prop (w2.up e4) ?_
    refine c_holes (w2.up e4) d1 (by omega) fun ys q7 G13 e5 np7 ndy hmy pwy uy => ?_
    have e : zs = ys := uniq_sorted pw pwy nd ndy fun l => (hm l).trans (hmy l).symm
    subst e
    walk_at "tx"
    refine eq_one (SqL.of uy) (SqL.of (e5 _ _ (e4 _ _ uk))) cz cz ?_
    rw [decide_eq_true rfl]
    exact q _
end
end AT
namespace AT
open PySem PySem.Spec L2
def okL_0 (K : AHd.Fr) : List Bool := [decide (PySem.W.nsIn K mainGlobals "AnytuneError" = some (some (.ref (He.ga K "AnytuneError")))),
  decide (PySem.W.nsIn K mainGlobals "NoMoment" = some (some (.ref (He.ga K "NoMoment")))),
  decide (PySem.W.nsIn K mainGlobals "NoName" = some (some (.ref (He.ga K "NoName")))),
  decide (PySem.W.nsIn K mainGlobals "Moment" = some (some (.ref (He.ga K "Moment")))),
  decide (PySem.W.nsIn K mainGlobals "Piece" = some (some (.ref (He.ga K "Piece")))),
  decide (PySem.W.findIn K (.ref (He.ga K "NoMoment")) "__init__" = some (some (.ref (He.ma K (He.ga K "NoMoment") "__init__")))),
  PySem.W.isFn K (.ref (He.ma K (He.ga K "NoMoment") "__init__")),
  decide (PySem.W.findIn K (.ref (He.ga K "NoName")) "__init__" = some (some (.ref (He.ma K (He.ga K "NoName") "__init__")))),
  PySem.W.isFn K (.ref (He.ma K (He.ga K "NoName") "__init__")),
  decide (PySem.W.nsIn K mainGlobals "common" = some (some (.ref (He.ga K "common")))),
  decide (PySem.W.findIn K (.ref (He.ga K "Moment")) "__init__" = some (some (.ref (He.ma K (He.ga K "Moment") "__init__")))),
  PySem.W.isFn K (.ref (He.ma K (He.ga K "Moment") "__init__")),
  decide (PySem.W.nsIn K mainGlobals "as_moment" = some (some (.ref (He.ga K "as_moment")))),
  decide (PySem.W.nsIn K mainGlobals "children" = some (some (.ref (He.ga K "children")))),
  decide (PySem.W.nsIn K mainGlobals "names_in" = some (some (.ref (He.ga K "names_in")))),
  decide (PySem.W.nsIn K mainGlobals "shift_tree" = some (some (.ref (He.ga K "shift_tree")))),
  decide (PySem.W.findIn K (.ref (He.ga K "Piece")) "__init__" = some (some (.ref (He.ma K (He.ga K "Piece") "__init__")))),
  PySem.W.isFn K (.ref (He.ma K (He.ga K "Piece") "__init__")),
  AHd.fcB (PySem.W.findCls K (.ref (He.ga K "Piece")) (.type "type") "named") (.get (.builtin "staticmethod.__get__") (.ref (AHd.smAt K (He.ga K "Piece") "named")) .none (.ref (He.ga K "Piece"))),
  AHd.recB K (AHd.smAt K (He.ga K "Piece") "named") "staticmethod" (AHd.recAt K (AHd.smAt K (He.ga K "Piece") "named") "staticmethod")]
def okL_1 (K : AHd.Fr) : List Bool := [AHd.fcB (PySem.W.findCls K (.ref (He.ga K "Piece")) (.type "type") "silence") (.get (.builtin "staticmethod.__get__") (.ref (AHd.smAt K (He.ga K "Piece") "silence")) .none (.ref (He.ga K "Piece"))),
  AHd.recB K (AHd.smAt K (He.ga K "Piece") "silence") "staticmethod" (AHd.recAt K (AHd.smAt K (He.ga K "Piece") "silence") "staticmethod"),
  decide (PySem.W.findIn K (.ref (He.ga K "Piece")) "holes" = some (some (.ref (He.ma K (He.ga K "Piece") "holes")))),
  decide (PySem.W.specialIn K (.ref (He.ma K (He.ga K "Piece") "holes")) "__get__" = some (some (.builtin "property.__get__"))),
  decide (PySem.W.takesIn K (.ref (He.ma K (He.ga K "Piece") "holes")) = some true),
  AHd.recB K (He.ma K (He.ga K "Piece") "holes") "property" (AHd.recAt K (He.ma K (He.ga K "Piece") "holes") "property"),
  decide (PySem.W.findIn K (.ref (He.ga K "Piece")) "__or__" = some (some (.ref (He.ma K (He.ga K "Piece") "__or__")))),
  PySem.W.isFn K (.ref (He.ma K (He.ga K "Piece") "__or__")),
  decide (PySem.W.findIn K (.ref (He.ga K "Piece")) "__sub__" = some (some (.ref (He.ma K (He.ga K "Piece") "__sub__")))),
  PySem.W.isFn K (.ref (He.ma K (He.ga K "Piece") "__sub__")),
  decide (PySem.W.findIn K (.ref (He.ga K "Piece")) "__add__" = some (some (.ref (He.ma K (He.ga K "Piece") "__add__")))),
  PySem.W.isFn K (.ref (He.ma K (He.ga K "Piece") "__add__")),
  decide (PySem.W.findIn K (.ref (He.ga K "Piece")) "__radd__" = some (some (.ref (He.ma K (He.ga K "Piece") "__radd__")))),
  PySem.W.isFn K (.ref (He.ma K (He.ga K "Piece") "__radd__")),
  decide (PySem.W.findIn K (.ref (He.ga K "Piece")) "__lshift__" = some (some (.ref (He.ma K (He.ga K "Piece") "__lshift__")))),
  PySem.W.isFn K (.ref (He.ma K (He.ga K "Piece") "__lshift__")),
  decide (PySem.W.findIn K (.ref (He.ga K "Piece")) "__neg__" = some (some (.ref (He.ma K (He.ga K "Piece") "__neg__")))),
  PySem.W.isFn K (.ref (He.ma K (He.ga K "Piece") "__neg__")),
  decide (PySem.W.findIn K (.ref (He.ga K "Piece")) "only" = some (some (.ref (He.ma K (He.ga K "Piece") "only")))),
  PySem.W.isFn K (.ref (He.ma K (He.ga K "Piece") "only"))]
def okL_2 (K : AHd.Fr) : List Bool := [decide (PySem.W.findIn K (.ref (He.ga K "Piece")) "every" = some (some (.ref (He.ma K (He.ga K "Piece") "every")))),
  PySem.W.isFn K (.ref (He.ma K (He.ga K "Piece") "every")),
  decide (PySem.W.findIn K (.ref (He.ga K "Piece")) "nth" = some (some (.ref (He.ma K (He.ga K "Piece") "nth")))),
  PySem.W.isFn K (.ref (He.ma K (He.ga K "Piece") "nth")),
  decide (PySem.W.nsIn K mainGlobals "good_name" = some (some (.ref (He.ga K "good_name")))),
  decide (PySem.W.nsIn K mainGlobals "turns" = some (some (.ref (He.ga K "turns")))),
  decide (PySem.W.nsIn K mainGlobals "_law_cell" = some (some (.ref (He.ga K "_law_cell")))),
  decide (PySem.W.nsIn K mainGlobals "_law_row" = some (some (.ref (He.ga K "_law_row")))),
  decide (PySem.W.nsIn K mainGlobals "_law_sign" = some (some (.ref (He.ga K "_law_sign")))),
  decide (PySem.W.nsIn K mainGlobals "_law_spoilt" = some (some (.ref (He.ga K "_law_spoilt")))),
  decide (PySem.W.nsIn K mainGlobals "_law_name" = some (some (.ref (He.ga K "_law_name")))),
  decide (PySem.W.nsIn K mainGlobals "_law_is_name" = some (some (.ref (He.ga K "_law_is_name")))),
  decide (PySem.W.nsIn K mainGlobals "_law_taken" = some (some (.ref (He.ga K "_law_taken")))),
  decide (PySem.W.nsIn K mainGlobals "_law_unlike" = some (some (.ref (He.ga K "_law_unlike")))),
  decide (PySem.W.nsIn K mainGlobals "law" = some (some (.ref (He.ga K "law")))),
  PySem.W.readsIn K (He.ga K "AnytuneError") (.type "type"),
  decide (PySem.W.specialIn K (.ref (He.ga K "AnytuneError")) "__getattribute__" = some (some (.builtin "type.__getattribute__"))),
  AHd.fcB (PySem.W.findCls K (.ref (He.ga K "AnytuneError")) (.type "type") "__init__") (.val (.builtin "ValueError.__init__")),
  AHd.oexB K (He.ga K "NoMoment"),
  decide (PySem.W.findIn K (.ref (He.ga K "NoMoment")) "__setattr__" = some (some (.builtin "object.__setattr__")))]
def okL_3 (K : AHd.Fr) : List Bool := [decide (PySem.W.subIn K (.ref (He.ga K "NoMoment")) (.type "BaseException") = some true),
  decide (PySem.W.typeIn K (.ref (He.ga K "NoMoment")) = some (.type "type")),
  PySem.W.keepIn K (.ref (He.ga K "NoMoment")),
  decide (PySem.W.findIn K (.ref (He.ga K "NoMoment")) "__getattribute__" = some (some (.builtin "BaseException.__getattribute__"))),
  decide (PySem.W.findIn K (.ref (He.ga K "NoMoment")) "__getattr__" = some none),
  PySem.W.hasDictIn K (He.ga K "NoMoment"),
  PySem.W.isClsIn K (He.ga K "NoMoment"),
  decide (PySem.W.subIn K (.ref (He.ga K "NoMoment")) (.ref (He.ga K "NoMoment")) = some true),
  decide (PySem.W.findIn K (.ref (He.ga K "NoMoment")) "top" = some none),
  decide (PySem.W.findIn K (.ref (He.ga K "NoMoment")) "bottom" = some none),
  AHd.oexB K (He.ga K "NoName"),
  decide (PySem.W.findIn K (.ref (He.ga K "NoName")) "__setattr__" = some (some (.builtin "object.__setattr__"))),
  decide (PySem.W.subIn K (.ref (He.ga K "NoName")) (.type "BaseException") = some true),
  decide (PySem.W.typeIn K (.ref (He.ga K "NoName")) = some (.type "type")),
  PySem.W.keepIn K (.ref (He.ga K "NoName")),
  decide (PySem.W.findIn K (.ref (He.ga K "NoName")) "__getattribute__" = some (some (.builtin "BaseException.__getattribute__"))),
  decide (PySem.W.findIn K (.ref (He.ga K "NoName")) "__getattr__" = some none),
  PySem.W.hasDictIn K (He.ga K "NoName"),
  PySem.W.isClsIn K (He.ga K "NoName"),
  decide (PySem.W.subIn K (.ref (He.ga K "NoName")) (.ref (He.ga K "NoName")) = some true)]
def okL_4 (K : AHd.Fr) : List Bool := [decide (PySem.W.findIn K (.ref (He.ga K "NoName")) "name" = some none),
  PySem.W.plainGet K (He.ga K "Moment") Str.empty,
  PySem.W.hasDictIn K (He.ga K "Moment"),
  PySem.W.plainOver K (He.ga K "Moment"),
  decide (PySem.W.findIn K (.ref (He.ga K "Moment")) "__setattr__" = some (some (.builtin "object.__setattr__"))),
  PySem.W.selfFirst K (He.ga K "Moment"),
  decide (PySem.W.subIn K (.ref (He.ga K "Moment")) (.type "int") = some false),
  decide (PySem.W.mroIn K (He.ga K "Moment") (.type "object") = some true),
  decide (PySem.W.findIn K (.ref (He.ga K "Moment")) "__class__" = some (some (.builtin "object.__class__"))),
  decide (PySem.W.specialIn K (.builtin "object.__class__") "__get__" = some (some (.builtin "getset_descriptor.__get__"))),
  decide (PySem.W.takesIn K (.builtin "object.__class__") = some true),
  PySem.W.isClsIn K (He.ga K "Moment"),
  decide (PySem.W.typeIn K (.ref (He.ga K "Moment")) = some (.type "type")),
  PySem.W.keepIn K (.ref (He.ga K "Moment")),
  PySem.W.makesIn K (He.ga K "Moment"),
  decide (PySem.W.findIn K (.ref (He.ga K "Moment")) "top" = some none),
  decide (PySem.W.findIn K (.ref (He.ga K "Moment")) "bottom" = some none),
  decide (PySem.W.subIn K (.type "int") (.ref (He.ga K "Moment")) = some false),
  decide (PySem.W.subIn K (.type "str") (.ref (He.ga K "Moment")) = some false),
  decide (PySem.W.subIn K (.type "list") (.ref (He.ga K "Moment")) = some false)]
def okL_5 (K : AHd.Fr) : List Bool := [decide (PySem.W.subIn K (.type "tuple") (.ref (He.ga K "Moment")) = some false),
  decide (PySem.W.subIn K (.type "NoneType") (.ref (He.ga K "Moment")) = some false),
  decide (PySem.W.subIn K (.type "bool") (.ref (He.ga K "Moment")) = some false),
  decide (PySem.W.findIn K (.ref (He.ga K "Moment")) "__ne__" = some (some (.builtin "object.__ne__"))),
  PySem.W.plainGet K (He.ga K "Piece") Str.empty,
  PySem.W.hasDictIn K (He.ga K "Piece"),
  PySem.W.plainOver K (He.ga K "Piece"),
  decide (PySem.W.findIn K (.ref (He.ga K "Piece")) "__setattr__" = some (some (.builtin "object.__setattr__"))),
  PySem.W.selfFirst K (He.ga K "Piece"),
  decide (PySem.W.subIn K (.ref (He.ga K "Piece")) (.type "int") = some false),
  decide (PySem.W.mroIn K (He.ga K "Piece") (.type "object") = some true),
  decide (PySem.W.findIn K (.ref (He.ga K "Piece")) "__class__" = some (some (.builtin "object.__class__"))),
  PySem.W.isClsIn K (He.ga K "Piece"),
  decide (PySem.W.typeIn K (.ref (He.ga K "Piece")) = some (.type "type")),
  PySem.W.keepIn K (.ref (He.ga K "Piece")),
  PySem.W.makesIn K (He.ga K "Piece"),
  PySem.W.readsIn K (He.ga K "Piece") (.type "type"),
  decide (PySem.W.specialIn K (.ref (He.ga K "Piece")) "__getattribute__" = some (some (.builtin "type.__getattribute__"))),
  decide (PySem.W.findIn K (.ref (He.ga K "Piece")) "tree" = some none),
  decide (PySem.W.subIn K (.type "int") (.ref (He.ga K "Piece")) = some false)]
def okL_6 (K : AHd.Fr) : List Bool := [decide (PySem.W.subIn K (.type "str") (.ref (He.ga K "Piece")) = some false),
  decide (PySem.W.subIn K (.type "list") (.ref (He.ga K "Piece")) = some false),
  decide (PySem.W.subIn K (.type "tuple") (.ref (He.ga K "Piece")) = some false),
  decide (PySem.W.subIn K (.type "NoneType") (.ref (He.ga K "Piece")) = some false),
  decide (PySem.W.subIn K (.type "bool") (.ref (He.ga K "Piece")) = some false),
  decide (PySem.W.findIn K (.ref (He.ga K "Piece")) "__ne__" = some (some (.builtin "object.__ne__"))),
  AHd.someB (PySem.W.findIn K (.type "int") "__add__"),
  AHd.someB (PySem.W.findIn K (.type "int") "__radd__"),
  AHd.someB (PySem.W.findIn K (.type "int") "__lshift__"),
  AHd.someB (PySem.W.findIn K (.type "int") "__rlshift__"),
  decide (PySem.W.findIn K (.ref (He.ga K "Piece")) "__rlshift__" = some none),
  AHd.conB K "LETTERS" (.str (SX.S [97, 98, 99, 100, 101, 102, 103, 104, 105, 106, 107, 108, 109, 110, 111, 112, 113, 114, 115, 116, 117, 118, 119, 120, 121, 122])),
  decide (PySem.W.nsIn K mainGlobals "TABLES" = some (some (.ref (He.ga K "TABLES")))),
  AHd.entB K (He.ga K "TABLES") "|" (.str (SX.S [48, 49, 49, 49])),
  AHd.entB K (He.ga K "TABLES") "&" (.str (SX.S [48, 48, 48, 49])),
  AHd.entB K (He.ga K "TABLES") "-" (.str (SX.S [48, 49, 48, 48])),
  AHd.entB K (He.ga K "TABLES") "^" (.str (SX.S [48, 49, 49, 48])),
  decide (PySem.W.nsIn K (He.ga K "TABLES") "hole" = some none),
  decide (PySem.W.nsIn K (He.ga K "TABLES") "silence" = some none),
  decide (PySem.W.nsIn K (He.ga K "TABLES") "up" = some none)]
def okL_7 (K : AHd.Fr) : List Bool := [decide (PySem.W.nsIn K (He.ga K "TABLES") "shift" = some none),
  decide (PySem.W.nsIn K (He.ga K "TABLES") "pace" = some none),
  decide (PySem.W.nsIn K (He.ga K "TABLES") "mirror" = some none),
  decide (PySem.W.nsIn K (He.ga K "TABLES") "only" = some none),
  decide (PySem.W.nsIn K (He.ga K "TABLES") "every" = some none),
  decide (PySem.W.nsIn K (He.ga K "TABLES") "nth" = some none),
  decide (PySem.W.nsIn K (He.ga K "TABLES") "turns" = some none),
  decide (PySem.W.nsIn K (He.ga K "TABLES") "cells" = some none),
  decide (PySem.W.nsIn K mainGlobals "abs" = some none),
  decide (PySem.W.nsIn K mainGlobals "isinstance" = some none),
  decide (PySem.W.nsIn K mainGlobals "int" = some none),
  decide (PySem.W.nsIn K mainGlobals "list" = some none),
  decide (PySem.W.nsIn K mainGlobals "staticmethod" = some none),
  decide (PySem.W.nsIn K mainGlobals "property" = some none),
  decide (PySem.W.nsIn K mainGlobals "sorted" = some none),
  decide (PySem.W.nsIn K mainGlobals "str" = some none),
  decide (PySem.W.nsIn K mainGlobals "len" = some none),
  decide (PySem.W.nsIn K mainGlobals "tuple" = some none),
  decide (PySem.W.nsIn K mainGlobals "range" = some none)]
def okB (K : AHd.Fr) : Bool := [(okL_0 K).all fun b => b, (okL_1 K).all fun b => b, (okL_2 K).all fun b => b, (okL_3 K).all fun b => b, (okL_4 K).all fun b => b, (okL_5 K).all fun b => b, (okL_6 K).all fun b => b, (okL_7 K).all fun b => b].all fun b => b
def dx_0 : AHd.DX := ⟨fun K => (He.ma K (He.ga K "NoMoment") "__init__"), "__init__", "NoMoment.__init__", defArgs s_NoMoment___init__, defBody s_NoMoment___init__, defScope s_NoMoment___init__, [], []⟩
def dx_1 : AHd.DX := ⟨fun K => (He.ma K (He.ga K "NoName") "__init__"), "__init__", "NoName.__init__", defArgs s_NoName___init__, defBody s_NoName___init__, defScope s_NoName___init__, [], []⟩
def dx_2 : AHd.DX := ⟨fun K => (He.ga K "common"), "common", "common", defArgs s_common, defBody s_common, defScope s_common, [], []⟩
def dx_3 : AHd.DX := ⟨fun K => (He.ma K (He.ga K "Moment") "__init__"), "__init__", "Moment.__init__", defArgs s_Moment___init__, defBody s_Moment___init__, defScope s_Moment___init__, [.int 1], []⟩
def dx_4 : AHd.DX := ⟨fun K => (He.ga K "as_moment"), "as_moment", "as_moment", defArgs s_as_moment, defBody s_as_moment, defScope s_as_moment, [], []⟩
def dx_5 : AHd.DX := ⟨fun K => (He.ga K "children"), "children", "children", defArgs s_children, defBody s_children, defScope s_children, [], []⟩
def dx_6 : AHd.DX := ⟨fun K => (He.ga K "names_in"), "names_in", "names_in", defArgs s_names_in, defBody s_names_in, defScope s_names_in, [], []⟩
def dx_7 : AHd.DX := ⟨fun K => (He.ga K "shift_tree"), "shift_tree", "shift_tree", defArgs s_shift_tree, defBody s_shift_tree, defScope s_shift_tree, [], []⟩
def dx_8 : AHd.DX := ⟨fun K => (He.ma K (He.ga K "Piece") "__init__"), "__init__", "Piece.__init__", defArgs s_Piece___init__, defBody s_Piece___init__, defScope s_Piece___init__, [], []⟩
def dx_9 : AHd.DX := ⟨fun K => (AHd.recAt K (AHd.smAt K (He.ga K "Piece") "named") "staticmethod"), "named", "Piece.named", defArgs s_Piece_named, defBody s_Piece_named, defScope s_Piece_named, [], []⟩
def dx_10 : AHd.DX := ⟨fun K => (AHd.recAt K (AHd.smAt K (He.ga K "Piece") "silence") "staticmethod"), "silence", "Piece.silence", defArgs s_Piece_silence, defBody s_Piece_silence, defScope s_Piece_silence, [], []⟩
def dx_11 : AHd.DX := ⟨fun K => (AHd.recAt K (He.ma K (He.ga K "Piece") "holes") "property"), "holes", "Piece.holes", defArgs s_Piece_holes, defBody s_Piece_holes, defScope s_Piece_holes, [], []⟩
def dx_12 : AHd.DX := ⟨fun K => (He.ma K (He.ga K "Piece") "__or__"), "__or__", "Piece.__or__", defArgs s_Piece___or__, defBody s_Piece___or__, defScope s_Piece___or__, [], []⟩
def dx_13 : AHd.DX := ⟨fun K => (He.ma K (He.ga K "Piece") "__sub__"), "__sub__", "Piece.__sub__", defArgs s_Piece___sub__, defBody s_Piece___sub__, defScope s_Piece___sub__, [], []⟩
def dx_14 : AHd.DX := ⟨fun K => (He.ma K (He.ga K "Piece") "__add__"), "__add__", "Piece.__add__", defArgs s_Piece___add__, defBody s_Piece___add__, defScope s_Piece___add__, [], []⟩
def dx_15 : AHd.DX := ⟨fun K => (He.ma K (He.ga K "Piece") "__radd__"), "__radd__", "Piece.__radd__", defArgs s_Piece___radd__, defBody s_Piece___radd__, defScope s_Piece___radd__, [], []⟩
def dx_16 : AHd.DX := ⟨fun K => (He.ma K (He.ga K "Piece") "__lshift__"), "__lshift__", "Piece.__lshift__", defArgs s_Piece___lshift__, defBody s_Piece___lshift__, defScope s_Piece___lshift__, [], []⟩
def dx_17 : AHd.DX := ⟨fun K => (He.ma K (He.ga K "Piece") "__neg__"), "__neg__", "Piece.__neg__", defArgs s_Piece___neg__, defBody s_Piece___neg__, defScope s_Piece___neg__, [], []⟩
def dx_18 : AHd.DX := ⟨fun K => (He.ma K (He.ga K "Piece") "only"), "only", "Piece.only", defArgs s_Piece_only, defBody s_Piece_only, defScope s_Piece_only, [], [("rounds", .int 1)]⟩
def dx_19 : AHd.DX := ⟨fun K => (He.ma K (He.ga K "Piece") "every"), "every", "Piece.every", defArgs s_Piece_every, defBody s_Piece_every, defScope s_Piece_every, [], [("first", .int 0)]⟩
def dx_20 : AHd.DX := ⟨fun K => (He.ma K (He.ga K "Piece") "nth"), "nth", "Piece.nth", defArgs s_Piece_nth, defBody s_Piece_nth, defScope s_Piece_nth, [], []⟩
def dx_21 : AHd.DX := ⟨fun K => (He.ga K "good_name"), "good_name", "good_name", defArgs s_good_name, defBody s_good_name, defScope s_good_name, [], []⟩
def dx_22 : AHd.DX := ⟨fun K => (He.ga K "turns"), "turns", "turns", defArgs s_turns, defBody s_turns, defScope s_turns, [], []⟩
def dx_23 : AHd.DX := ⟨fun K => (He.ga K "_law_cell"), "_law_cell", "_law_cell", defArgs s__law_cell, defBody s__law_cell, defScope s__law_cell, [], []⟩
def dx_24 : AHd.DX := ⟨fun K => (He.ga K "_law_row"), "_law_row", "_law_row", defArgs s__law_row, defBody s__law_row, defScope s__law_row, [], []⟩
def dx_25 : AHd.DX := ⟨fun K => (He.ga K "_law_sign"), "_law_sign", "_law_sign", defArgs s__law_sign, defBody s__law_sign, defScope s__law_sign, [], []⟩
def dx_26 : AHd.DX := ⟨fun K => (He.ga K "_law_spoilt"), "_law_spoilt", "_law_spoilt", defArgs s__law_spoilt, defBody s__law_spoilt, defScope s__law_spoilt, [], []⟩
def dx_27 : AHd.DX := ⟨fun K => (He.ga K "_law_name"), "_law_name", "_law_name", defArgs s__law_name, defBody s__law_name, defScope s__law_name, [], []⟩
def dx_28 : AHd.DX := ⟨fun K => (He.ga K "_law_is_name"), "_law_is_name", "_law_is_name", defArgs s__law_is_name, defBody s__law_is_name, defScope s__law_is_name, [], []⟩
def dx_29 : AHd.DX := ⟨fun K => (He.ga K "_law_taken"), "_law_taken", "_law_taken", defArgs s__law_taken, defBody s__law_taken, defScope s__law_taken, [], []⟩
def dx_30 : AHd.DX := ⟨fun K => (He.ga K "_law_unlike"), "_law_unlike", "_law_unlike", defArgs s__law_unlike, defBody s__law_unlike, defScope s__law_unlike, [], []⟩
def dx_31 : AHd.DX := ⟨fun K => (He.ga K "law"), "law", "law", defArgs s_law, defBody s_law, defScope s_law, [], []⟩
def fnL : List AHd.DX := [dx_0, dx_1, dx_2, dx_3, dx_4, dx_5, dx_6, dx_7, dx_8, dx_9, dx_10, dx_11, dx_12, dx_13, dx_14, dx_15, dx_16, dx_17, dx_18, dx_19, dx_20, dx_21, dx_22, dx_23, dx_24, dx_25, dx_26, dx_27, dx_28, dx_29, dx_30, dx_31]
def tb_0 : He.Tab := (fun K => He.ga K "TABLES", ["|", "&", "-", "^"])
def tsL : List He.Tab := [tb_0]
def nm_0 : List Str := ["AnytuneError", "NoMoment", "NoText", "NoMark", "NoRounds", "NoName", "BadPace", "NoWindow", "NoStep", "NoTurns", "Unfilled", "DIGITS", "MOST_DIGITS", "common", "multiple", "Moment", "as_moment", "whole_in", "moment_in", "sooner", "later", "ordered", "Mark", "row_of", "rows_of", "marks_of", "UNITED", "row_key", "row_before", "in_order"]
def nm_1 : List Str := ["covers", "chosen", "tabled", "joined", "clipped", "moved", "brought", "stored", "home", "repeats", "periods", "one_form", "TABLES", "children", "names_in", "rounds_of", "factor_of", "speeds_in", "inner", "steps", "led_in_round", "windows", "shift_tree", "pace_tree", "slow_tree", "EMPTY", "read_rows", "turned_cells", "turned", "cell_rows"]
def nm_2 : List Str := ["filled_rounds", "LEFT", "RIGHT", "Tune", "store_of", "tune_of", "made", "LETTERS", "Piece", "good_name", "turns", "_law_cell", "_law_row", "_law_sign", "_law_spoilt", "_law_name", "_law_is_name", "_law_taken", "_law_unlike"]
def nmL : List Str := nm_0 ++ (nm_1 ++ (nm_2))
theorem facts_of {w : World} {K : AHd.Fr} {h : Heap} {mg : Str → Option Value} {fa : Addr} (X : K.In h) (G : h.Ns mainGlobals mg) (hfa : mg "law" = some (.ref fa)) (c : AHd.Says okB fnL tsL w K) : ∃ T : Tx K mg, T.a_law = fa ∧ T.PR = w.params := by
  obtain ⟨d_NoMoment___init__, F_NoMoment___init__⟩ := c.fnn (d := dx_0) 0 rfl
  obtain ⟨d_NoName___init__, F_NoName___init__⟩ := c.fnn (d := dx_1) 1 rfl
  obtain ⟨d_common, F_common⟩ := c.fnn (d := dx_2) 2 rfl
  obtain ⟨d_Moment___init__, F_Moment___init__⟩ := c.fnn (d := dx_3) 3 rfl
  obtain ⟨d_as_moment, F_as_moment⟩ := c.fnn (d := dx_4) 4 rfl
  obtain ⟨d_children, F_children⟩ := c.fnn (d := dx_5) 5 rfl
  obtain ⟨d_names_in, F_names_in⟩ := c.fnn (d := dx_6) 6 rfl
  obtain ⟨d_shift_tree, F_shift_tree⟩ := c.fnn (d := dx_7) 7 rfl
  obtain ⟨d_Piece___init__, F_Piece___init__⟩ := c.fnn (d := dx_8) 8 rfl
  obtain ⟨d_Piece_named, F_Piece_named⟩ := c.fnn (d := dx_9) 9 rfl
  obtain ⟨d_Piece_silence, F_Piece_silence⟩ := c.fnn (d := dx_10) 10 rfl
  obtain ⟨d_Piece_holes, F_Piece_holes⟩ := c.fnn (d := dx_11) 11 rfl
  obtain ⟨d_Piece___or__, F_Piece___or__⟩ := c.fnn (d := dx_12) 12 rfl
  obtain ⟨d_Piece___sub__, F_Piece___sub__⟩ := c.fnn (d := dx_13) 13 rfl
  obtain ⟨d_Piece___add__, F_Piece___add__⟩ := c.fnn (d := dx_14) 14 rfl
  obtain ⟨d_Piece___radd__, F_Piece___radd__⟩ := c.fnn (d := dx_15) 15 rfl
  obtain ⟨d_Piece___lshift__, F_Piece___lshift__⟩ := c.fnn (d := dx_16) 16 rfl
  obtain ⟨d_Piece___neg__, F_Piece___neg__⟩ := c.fnn (d := dx_17) 17 rfl
  obtain ⟨d_Piece_only, F_Piece_only⟩ := c.fnn (d := dx_18) 18 rfl
  obtain ⟨d_Piece_every, F_Piece_every⟩ := c.fnn (d := dx_19) 19 rfl
  obtain ⟨d_Piece_nth, F_Piece_nth⟩ := c.fnn (d := dx_20) 20 rfl
  obtain ⟨d_good_name, F_good_name⟩ := c.fnn (d := dx_21) 21 rfl
  obtain ⟨d_turns, F_turns⟩ := c.fnn (d := dx_22) 22 rfl
  obtain ⟨d__law_cell, F__law_cell⟩ := c.fnn (d := dx_23) 23 rfl
  obtain ⟨d__law_row, F__law_row⟩ := c.fnn (d := dx_24) 24 rfl
  obtain ⟨d__law_sign, F__law_sign⟩ := c.fnn (d := dx_25) 25 rfl
  obtain ⟨d__law_spoilt, F__law_spoilt⟩ := c.fnn (d := dx_26) 26 rfl
  obtain ⟨d__law_name, F__law_name⟩ := c.fnn (d := dx_27) 27 rfl
  obtain ⟨d__law_is_name, F__law_is_name⟩ := c.fnn (d := dx_28) 28 rfl
  obtain ⟨d__law_taken, F__law_taken⟩ := c.fnn (d := dx_29) 29 rfl
  obtain ⟨d__law_unlike, F__law_unlike⟩ := c.fnn (d := dx_30) 30 rfl
  obtain ⟨d_law, F_law⟩ := c.fnn (d := dx_31) 31 rfl
  obtain ⟨te_TABLES, tn_TABLES, tk_TABLES⟩ := c.tab (t := tb_0) 0 rfl
  have e_0 : ((okL_0 K).all fun b => b) = true := AHd.nth c.okk 0 rfl
  have g_AnytuneError : PySem.W.nsIn K mainGlobals "AnytuneError" = some (some (.ref (He.ga K "AnytuneError"))) := of_decide_eq_true (AHd.nth (b := decide (PySem.W.nsIn K mainGlobals "AnytuneError" = some (some (.ref (He.ga K "AnytuneError"))))) e_0 0 rfl)
  have g_NoMoment : PySem.W.nsIn K mainGlobals "NoMoment" = some (some (.ref (He.ga K "NoMoment"))) := of_decide_eq_true (AHd.nth (b := decide (PySem.W.nsIn K mainGlobals "NoMoment" = some (some (.ref (He.ga K "NoMoment"))))) e_0 1 rfl)
  have g_NoName : PySem.W.nsIn K mainGlobals "NoName" = some (some (.ref (He.ga K "NoName"))) := of_decide_eq_true (AHd.nth (b := decide (PySem.W.nsIn K mainGlobals "NoName" = some (some (.ref (He.ga K "NoName"))))) e_0 2 rfl)
  have g_Moment : PySem.W.nsIn K mainGlobals "Moment" = some (some (.ref (He.ga K "Moment"))) := of_decide_eq_true (AHd.nth (b := decide (PySem.W.nsIn K mainGlobals "Moment" = some (some (.ref (He.ga K "Moment"))))) e_0 3 rfl)
  have g_Piece : PySem.W.nsIn K mainGlobals "Piece" = some (some (.ref (He.ga K "Piece"))) := of_decide_eq_true (AHd.nth (b := decide (PySem.W.nsIn K mainGlobals "Piece" = some (some (.ref (He.ga K "Piece"))))) e_0 4 rfl)
  have x_NoMoment___init__ : PySem.W.findIn K (.ref (He.ga K "NoMoment")) "__init__" = some (some (.ref (He.ma K (He.ga K "NoMoment") "__init__"))) := of_decide_eq_true (AHd.nth (b := decide (PySem.W.findIn K (.ref (He.ga K "NoMoment")) "__init__" = some (some (.ref (He.ma K (He.ga K "NoMoment") "__init__"))))) e_0 5 rfl)
  have f_NoMoment___init__ : PySem.W.isFn K (.ref (He.ma K (He.ga K "NoMoment") "__init__")) = true := (AHd.nth (b := PySem.W.isFn K (.ref (He.ma K (He.ga K "NoMoment") "__init__"))) e_0 6 rfl)
  have x_NoName___init__ : PySem.W.findIn K (.ref (He.ga K "NoName")) "__init__" = some (some (.ref (He.ma K (He.ga K "NoName") "__init__"))) := of_decide_eq_true (AHd.nth (b := decide (PySem.W.findIn K (.ref (He.ga K "NoName")) "__init__" = some (some (.ref (He.ma K (He.ga K "NoName") "__init__"))))) e_0 7 rfl)
  have f_NoName___init__ : PySem.W.isFn K (.ref (He.ma K (He.ga K "NoName") "__init__")) = true := (AHd.nth (b := PySem.W.isFn K (.ref (He.ma K (He.ga K "NoName") "__init__"))) e_0 8 rfl)
  have g_common : PySem.W.nsIn K mainGlobals "common" = some (some (.ref (He.ga K "common"))) := of_decide_eq_true (AHd.nth (b := decide (PySem.W.nsIn K mainGlobals "common" = some (some (.ref (He.ga K "common"))))) e_0 9 rfl)
  have x_Moment___init__ : PySem.W.findIn K (.ref (He.ga K "Moment")) "__init__" = some (some (.ref (He.ma K (He.ga K "Moment") "__init__"))) := of_decide_eq_true (AHd.nth (b := decide (PySem.W.findIn K (.ref (He.ga K "Moment")) "__init__" = some (some (.ref (He.ma K (He.ga K "Moment") "__init__"))))) e_0 10 rfl)
  have f_Moment___init__ : PySem.W.isFn K (.ref (He.ma K (He.ga K "Moment") "__init__")) = true := (AHd.nth (b := PySem.W.isFn K (.ref (He.ma K (He.ga K "Moment") "__init__"))) e_0 11 rfl)
  have g_as_moment : PySem.W.nsIn K mainGlobals "as_moment" = some (some (.ref (He.ga K "as_moment"))) := of_decide_eq_true (AHd.nth (b := decide (PySem.W.nsIn K mainGlobals "as_moment" = some (some (.ref (He.ga K "as_moment"))))) e_0 12 rfl)
  have g_children : PySem.W.nsIn K mainGlobals "children" = some (some (.ref (He.ga K "children"))) := of_decide_eq_true (AHd.nth (b := decide (PySem.W.nsIn K mainGlobals "children" = some (some (.ref (He.ga K "children"))))) e_0 13 rfl)
  have g_names_in : PySem.W.nsIn K mainGlobals "names_in" = some (some (.ref (He.ga K "names_in"))) := of_decide_eq_true (AHd.nth (b := decide (PySem.W.nsIn K mainGlobals "names_in" = some (some (.ref (He.ga K "names_in"))))) e_0 14 rfl)
  have g_shift_tree : PySem.W.nsIn K mainGlobals "shift_tree" = some (some (.ref (He.ga K "shift_tree"))) := of_decide_eq_true (AHd.nth (b := decide (PySem.W.nsIn K mainGlobals "shift_tree" = some (some (.ref (He.ga K "shift_tree"))))) e_0 15 rfl)
  have x_Piece___init__ : PySem.W.findIn K (.ref (He.ga K "Piece")) "__init__" = some (some (.ref (He.ma K (He.ga K "Piece") "__init__"))) := of_decide_eq_true (AHd.nth (b := decide (PySem.W.findIn K (.ref (He.ga K "Piece")) "__init__" = some (some (.ref (He.ma K (He.ga K "Piece") "__init__"))))) e_0 16 rfl)
  have f_Piece___init__ : PySem.W.isFn K (.ref (He.ma K (He.ga K "Piece") "__init__")) = true := (AHd.nth (b := PySem.W.isFn K (.ref (He.ma K (He.ga K "Piece") "__init__"))) e_0 17 rfl)
  have sx_Piece_named : PySem.W.findCls K (.ref (He.ga K "Piece")) (.type "type") "named" = some (.get (.builtin "staticmethod.__get__") (.ref (AHd.smAt K (He.ga K "Piece") "named")) .none (.ref (He.ga K "Piece"))) := AHd.fcB_ok (AHd.nth (b := AHd.fcB (PySem.W.findCls K (.ref (He.ga K "Piece")) (.type "type") "named") (.get (.builtin "staticmethod.__get__") (.ref (AHd.smAt K (He.ga K "Piece") "named")) .none (.ref (He.ga K "Piece")))) e_0 18 rfl)
  have sy_Piece_named : ∃ rest, PySem.W.recIn K (AHd.smAt K (He.ga K "Piece") "named") "staticmethod" = some (.ref (AHd.recAt K (AHd.smAt K (He.ga K "Piece") "named") "staticmethod") :: rest) := AHd.recB_ok (AHd.nth (b := AHd.recB K (AHd.smAt K (He.ga K "Piece") "named") "staticmethod" (AHd.recAt K (AHd.smAt K (He.ga K "Piece") "named") "staticmethod")) e_0 19 rfl)
  have e_1 : ((okL_1 K).all fun b => b) = true := AHd.nth c.okk 1 rfl
  have sx_Piece_silence : PySem.W.findCls K (.ref (He.ga K "Piece")) (.type "type") "silence" = some (.get (.builtin "staticmethod.__get__") (.ref (AHd.smAt K (He.ga K "Piece") "silence")) .none (.ref (He.ga K "Piece"))) := AHd.fcB_ok (AHd.nth (b := AHd.fcB (PySem.W.findCls K (.ref (He.ga K "Piece")) (.type "type") "silence") (.get (.builtin "staticmethod.__get__") (.ref (AHd.smAt K (He.ga K "Piece") "silence")) .none (.ref (He.ga K "Piece")))) e_1 0 rfl)
  have sy_Piece_silence : ∃ rest, PySem.W.recIn K (AHd.smAt K (He.ga K "Piece") "silence") "staticmethod" = some (.ref (AHd.recAt K (AHd.smAt K (He.ga K "Piece") "silence") "staticmethod") :: rest) := AHd.recB_ok (AHd.nth (b := AHd.recB K (AHd.smAt K (He.ga K "Piece") "silence") "staticmethod" (AHd.recAt K (AHd.smAt K (He.ga K "Piece") "silence") "staticmethod")) e_1 1 rfl)
  have px_Piece_holes : PySem.W.findIn K (.ref (He.ga K "Piece")) "holes" = some (some (.ref (He.ma K (He.ga K "Piece") "holes"))) := of_decide_eq_true (AHd.nth (b := decide (PySem.W.findIn K (.ref (He.ga K "Piece")) "holes" = some (some (.ref (He.ma K (He.ga K "Piece") "holes"))))) e_1 2 rfl)
  have pg_Piece_holes : PySem.W.specialIn K (.ref (He.ma K (He.ga K "Piece") "holes")) "__get__" = some (some (.builtin "property.__get__")) := of_decide_eq_true (AHd.nth (b := decide (PySem.W.specialIn K (.ref (He.ma K (He.ga K "Piece") "holes")) "__get__" = some (some (.builtin "property.__get__")))) e_1 3 rfl)
  have pt_Piece_holes : PySem.W.takesIn K (.ref (He.ma K (He.ga K "Piece") "holes")) = some true := of_decide_eq_true (AHd.nth (b := decide (PySem.W.takesIn K (.ref (He.ma K (He.ga K "Piece") "holes")) = some true)) e_1 4 rfl)
  have py_Piece_holes : ∃ rest, PySem.W.recIn K (He.ma K (He.ga K "Piece") "holes") "property" = some (.ref (AHd.recAt K (He.ma K (He.ga K "Piece") "holes") "property") :: rest) := AHd.recB_ok (AHd.nth (b := AHd.recB K (He.ma K (He.ga K "Piece") "holes") "property" (AHd.recAt K (He.ma K (He.ga K "Piece") "holes") "property")) e_1 5 rfl)
  have x_Piece___or__ : PySem.W.findIn K (.ref (He.ga K "Piece")) "__or__" = some (some (.ref (He.ma K (He.ga K "Piece") "__or__"))) := of_decide_eq_true (AHd.nth (b := decide (PySem.W.findIn K (.ref (He.ga K "Piece")) "__or__" = some (some (.ref (He.ma K (He.ga K "Piece") "__or__"))))) e_1 6 rfl)
  have f_Piece___or__ : PySem.W.isFn K (.ref (He.ma K (He.ga K "Piece") "__or__")) = true := (AHd.nth (b := PySem.W.isFn K (.ref (He.ma K (He.ga K "Piece") "__or__"))) e_1 7 rfl)
  have x_Piece___sub__ : PySem.W.findIn K (.ref (He.ga K "Piece")) "__sub__" = some (some (.ref (He.ma K (He.ga K "Piece") "__sub__"))) := of_decide_eq_true (AHd.nth (b := decide (PySem.W.findIn K (.ref (He.ga K "Piece")) "__sub__" = some (some (.ref (He.ma K (He.ga K "Piece") "__sub__"))))) e_1 8 rfl)
  have f_Piece___sub__ : PySem.W.isFn K (.ref (He.ma K (He.ga K "Piece") "__sub__")) = true := (AHd.nth (b := PySem.W.isFn K (.ref (He.ma K (He.ga K "Piece") "__sub__"))) e_1 9 rfl)
  have x_Piece___add__ : PySem.W.findIn K (.ref (He.ga K "Piece")) "__add__" = some (some (.ref (He.ma K (He.ga K "Piece") "__add__"))) := of_decide_eq_true (AHd.nth (b := decide (PySem.W.findIn K (.ref (He.ga K "Piece")) "__add__" = some (some (.ref (He.ma K (He.ga K "Piece") "__add__"))))) e_1 10 rfl)
  have f_Piece___add__ : PySem.W.isFn K (.ref (He.ma K (He.ga K "Piece") "__add__")) = true := (AHd.nth (b := PySem.W.isFn K (.ref (He.ma K (He.ga K "Piece") "__add__"))) e_1 11 rfl)
  have x_Piece___radd__ : PySem.W.findIn K (.ref (He.ga K "Piece")) "__radd__" = some (some (.ref (He.ma K (He.ga K "Piece") "__radd__"))) := of_decide_eq_true (AHd.nth (b := decide (PySem.W.findIn K (.ref (He.ga K "Piece")) "__radd__" = some (some (.ref (He.ma K (He.ga K "Piece") "__radd__"))))) e_1 12 rfl)
  have f_Piece___radd__ : PySem.W.isFn K (.ref (He.ma K (He.ga K "Piece") "__radd__")) = true := (AHd.nth (b := PySem.W.isFn K (.ref (He.ma K (He.ga K "Piece") "__radd__"))) e_1 13 rfl)
  have x_Piece___lshift__ : PySem.W.findIn K (.ref (He.ga K "Piece")) "__lshift__" = some (some (.ref (He.ma K (He.ga K "Piece") "__lshift__"))) := of_decide_eq_true (AHd.nth (b := decide (PySem.W.findIn K (.ref (He.ga K "Piece")) "__lshift__" = some (some (.ref (He.ma K (He.ga K "Piece") "__lshift__"))))) e_1 14 rfl)
  have f_Piece___lshift__ : PySem.W.isFn K (.ref (He.ma K (He.ga K "Piece") "__lshift__")) = true := (AHd.nth (b := PySem.W.isFn K (.ref (He.ma K (He.ga K "Piece") "__lshift__"))) e_1 15 rfl)
  have x_Piece___neg__ : PySem.W.findIn K (.ref (He.ga K "Piece")) "__neg__" = some (some (.ref (He.ma K (He.ga K "Piece") "__neg__"))) := of_decide_eq_true (AHd.nth (b := decide (PySem.W.findIn K (.ref (He.ga K "Piece")) "__neg__" = some (some (.ref (He.ma K (He.ga K "Piece") "__neg__"))))) e_1 16 rfl)
  have f_Piece___neg__ : PySem.W.isFn K (.ref (He.ma K (He.ga K "Piece") "__neg__")) = true := (AHd.nth (b := PySem.W.isFn K (.ref (He.ma K (He.ga K "Piece") "__neg__"))) e_1 17 rfl)
  have x_Piece_only : PySem.W.findIn K (.ref (He.ga K "Piece")) "only" = some (some (.ref (He.ma K (He.ga K "Piece") "only"))) := of_decide_eq_true (AHd.nth (b := decide (PySem.W.findIn K (.ref (He.ga K "Piece")) "only" = some (some (.ref (He.ma K (He.ga K "Piece") "only"))))) e_1 18 rfl)
  have f_Piece_only : PySem.W.isFn K (.ref (He.ma K (He.ga K "Piece") "only")) = true := (AHd.nth (b := PySem.W.isFn K (.ref (He.ma K (He.ga K "Piece") "only"))) e_1 19 rfl)
  have e_2 : ((okL_2 K).all fun b => b) = true := AHd.nth c.okk 2 rfl
  have x_Piece_every : PySem.W.findIn K (.ref (He.ga K "Piece")) "every" = some (some (.ref (He.ma K (He.ga K "Piece") "every"))) := of_decide_eq_true (AHd.nth (b := decide (PySem.W.findIn K (.ref (He.ga K "Piece")) "every" = some (some (.ref (He.ma K (He.ga K "Piece") "every"))))) e_2 0 rfl)
  have f_Piece_every : PySem.W.isFn K (.ref (He.ma K (He.ga K "Piece") "every")) = true := (AHd.nth (b := PySem.W.isFn K (.ref (He.ma K (He.ga K "Piece") "every"))) e_2 1 rfl)
  have x_Piece_nth : PySem.W.findIn K (.ref (He.ga K "Piece")) "nth" = some (some (.ref (He.ma K (He.ga K "Piece") "nth"))) := of_decide_eq_true (AHd.nth (b := decide (PySem.W.findIn K (.ref (He.ga K "Piece")) "nth" = some (some (.ref (He.ma K (He.ga K "Piece") "nth"))))) e_2 2 rfl)
  have f_Piece_nth : PySem.W.isFn K (.ref (He.ma K (He.ga K "Piece") "nth")) = true := (AHd.nth (b := PySem.W.isFn K (.ref (He.ma K (He.ga K "Piece") "nth"))) e_2 3 rfl)
  have g_good_name : PySem.W.nsIn K mainGlobals "good_name" = some (some (.ref (He.ga K "good_name"))) := of_decide_eq_true (AHd.nth (b := decide (PySem.W.nsIn K mainGlobals "good_name" = some (some (.ref (He.ga K "good_name"))))) e_2 4 rfl)
  have g_turns : PySem.W.nsIn K mainGlobals "turns" = some (some (.ref (He.ga K "turns"))) := of_decide_eq_true (AHd.nth (b := decide (PySem.W.nsIn K mainGlobals "turns" = some (some (.ref (He.ga K "turns"))))) e_2 5 rfl)
  have g__law_cell : PySem.W.nsIn K mainGlobals "_law_cell" = some (some (.ref (He.ga K "_law_cell"))) := of_decide_eq_true (AHd.nth (b := decide (PySem.W.nsIn K mainGlobals "_law_cell" = some (some (.ref (He.ga K "_law_cell"))))) e_2 6 rfl)
  have g__law_row : PySem.W.nsIn K mainGlobals "_law_row" = some (some (.ref (He.ga K "_law_row"))) := of_decide_eq_true (AHd.nth (b := decide (PySem.W.nsIn K mainGlobals "_law_row" = some (some (.ref (He.ga K "_law_row"))))) e_2 7 rfl)
  have g__law_sign : PySem.W.nsIn K mainGlobals "_law_sign" = some (some (.ref (He.ga K "_law_sign"))) := of_decide_eq_true (AHd.nth (b := decide (PySem.W.nsIn K mainGlobals "_law_sign" = some (some (.ref (He.ga K "_law_sign"))))) e_2 8 rfl)
  have g__law_spoilt : PySem.W.nsIn K mainGlobals "_law_spoilt" = some (some (.ref (He.ga K "_law_spoilt"))) := of_decide_eq_true (AHd.nth (b := decide (PySem.W.nsIn K mainGlobals "_law_spoilt" = some (some (.ref (He.ga K "_law_spoilt"))))) e_2 9 rfl)
  have g__law_name : PySem.W.nsIn K mainGlobals "_law_name" = some (some (.ref (He.ga K "_law_name"))) := of_decide_eq_true (AHd.nth (b := decide (PySem.W.nsIn K mainGlobals "_law_name" = some (some (.ref (He.ga K "_law_name"))))) e_2 10 rfl)
  have g__law_is_name : PySem.W.nsIn K mainGlobals "_law_is_name" = some (some (.ref (He.ga K "_law_is_name"))) := of_decide_eq_true (AHd.nth (b := decide (PySem.W.nsIn K mainGlobals "_law_is_name" = some (some (.ref (He.ga K "_law_is_name"))))) e_2 11 rfl)
  have g__law_taken : PySem.W.nsIn K mainGlobals "_law_taken" = some (some (.ref (He.ga K "_law_taken"))) := of_decide_eq_true (AHd.nth (b := decide (PySem.W.nsIn K mainGlobals "_law_taken" = some (some (.ref (He.ga K "_law_taken"))))) e_2 12 rfl)
  have g__law_unlike : PySem.W.nsIn K mainGlobals "_law_unlike" = some (some (.ref (He.ga K "_law_unlike"))) := of_decide_eq_true (AHd.nth (b := decide (PySem.W.nsIn K mainGlobals "_law_unlike" = some (some (.ref (He.ga K "_law_unlike"))))) e_2 13 rfl)
  have g_law : PySem.W.nsIn K mainGlobals "law" = some (some (.ref (He.ga K "law"))) := of_decide_eq_true (AHd.nth (b := decide (PySem.W.nsIn K mainGlobals "law" = some (some (.ref (He.ga K "law"))))) e_2 14 rfl)
  have r1_AnytuneError : PySem.W.readsIn K (He.ga K "AnytuneError") (.type "type") = true := (AHd.nth (b := PySem.W.readsIn K (He.ga K "AnytuneError") (.type "type")) e_2 15 rfl)
  have r2_AnytuneError : PySem.W.specialIn K (.ref (He.ga K "AnytuneError")) "__getattribute__" = some (some (.builtin "type.__getattribute__")) := of_decide_eq_true (AHd.nth (b := decide (PySem.W.specialIn K (.ref (He.ga K "AnytuneError")) "__getattribute__" = some (some (.builtin "type.__getattribute__")))) e_2 16 rfl)
  have r3_AnytuneError : PySem.W.findCls K (.ref (He.ga K "AnytuneError")) (.type "type") "__init__" = some (.val (.builtin "ValueError.__init__")) := AHd.fcB_ok (AHd.nth (b := AHd.fcB (PySem.W.findCls K (.ref (He.ga K "AnytuneError")) (.type "type") "__init__") (.val (.builtin "ValueError.__init__"))) e_2 17 rfl)
  have o1_NoMoment : ∃ nm q N bs bm sn sub ab col dd k0 k1 k2 k3 k5, K.lookup (He.ga K "NoMoment") = some (excClassObj nm q (He.ga K "NoMoment") N bs bm true sn sub ab col dd k0 k1 k2 k3 k5 "ValueError.__new__") ∧ PySem.HandSPX.refsVE bm = true := AHd.oexB_ok (AHd.nth (b := AHd.oexB K (He.ga K "NoMoment")) e_2 18 rfl)
  have o3_NoMoment : PySem.W.findIn K (.ref (He.ga K "NoMoment")) "__setattr__" = some (some (.builtin "object.__setattr__")) := of_decide_eq_true (AHd.nth (b := decide (PySem.W.findIn K (.ref (He.ga K "NoMoment")) "__setattr__" = some (some (.builtin "object.__setattr__")))) e_2 19 rfl)
  have e_3 : ((okL_3 K).all fun b => b) = true := AHd.nth c.okk 3 rfl
  have o4_NoMoment : PySem.W.subIn K (.ref (He.ga K "NoMoment")) (.type "BaseException") = some true := of_decide_eq_true (AHd.nth (b := decide (PySem.W.subIn K (.ref (He.ga K "NoMoment")) (.type "BaseException") = some true)) e_3 0 rfl)
  have o5_NoMoment : PySem.W.typeIn K (.ref (He.ga K "NoMoment")) = some (.type "type") := of_decide_eq_true (AHd.nth (b := decide (PySem.W.typeIn K (.ref (He.ga K "NoMoment")) = some (.type "type"))) e_3 1 rfl)
  have o6_NoMoment : PySem.W.keepIn K (.ref (He.ga K "NoMoment")) = true := (AHd.nth (b := PySem.W.keepIn K (.ref (He.ga K "NoMoment"))) e_3 2 rfl)
  have o7_NoMoment : PySem.W.findIn K (.ref (He.ga K "NoMoment")) "__getattribute__" = some (some (.builtin "BaseException.__getattribute__")) := of_decide_eq_true (AHd.nth (b := decide (PySem.W.findIn K (.ref (He.ga K "NoMoment")) "__getattribute__" = some (some (.builtin "BaseException.__getattribute__")))) e_3 3 rfl)
  have o8_NoMoment : PySem.W.findIn K (.ref (He.ga K "NoMoment")) "__getattr__" = some none := of_decide_eq_true (AHd.nth (b := decide (PySem.W.findIn K (.ref (He.ga K "NoMoment")) "__getattr__" = some none)) e_3 4 rfl)
  have o9_NoMoment : PySem.W.hasDictIn K (He.ga K "NoMoment") = true := (AHd.nth (b := PySem.W.hasDictIn K (He.ga K "NoMoment")) e_3 5 rfl)
  have oA_NoMoment : PySem.W.isClsIn K (He.ga K "NoMoment") = true := (AHd.nth (b := PySem.W.isClsIn K (He.ga K "NoMoment")) e_3 6 rfl)
  have oB_NoMoment : PySem.W.subIn K (.ref (He.ga K "NoMoment")) (.ref (He.ga K "NoMoment")) = some true := of_decide_eq_true (AHd.nth (b := decide (PySem.W.subIn K (.ref (He.ga K "NoMoment")) (.ref (He.ga K "NoMoment")) = some true)) e_3 7 rfl)
  have na_NoMoment_top : PySem.W.findIn K (.ref (He.ga K "NoMoment")) "top" = some none := of_decide_eq_true (AHd.nth (b := decide (PySem.W.findIn K (.ref (He.ga K "NoMoment")) "top" = some none)) e_3 8 rfl)
  have na_NoMoment_bottom : PySem.W.findIn K (.ref (He.ga K "NoMoment")) "bottom" = some none := of_decide_eq_true (AHd.nth (b := decide (PySem.W.findIn K (.ref (He.ga K "NoMoment")) "bottom" = some none)) e_3 9 rfl)
  have o1_NoName : ∃ nm q N bs bm sn sub ab col dd k0 k1 k2 k3 k5, K.lookup (He.ga K "NoName") = some (excClassObj nm q (He.ga K "NoName") N bs bm true sn sub ab col dd k0 k1 k2 k3 k5 "ValueError.__new__") ∧ PySem.HandSPX.refsVE bm = true := AHd.oexB_ok (AHd.nth (b := AHd.oexB K (He.ga K "NoName")) e_3 10 rfl)
  have o3_NoName : PySem.W.findIn K (.ref (He.ga K "NoName")) "__setattr__" = some (some (.builtin "object.__setattr__")) := of_decide_eq_true (AHd.nth (b := decide (PySem.W.findIn K (.ref (He.ga K "NoName")) "__setattr__" = some (some (.builtin "object.__setattr__")))) e_3 11 rfl)
  have o4_NoName : PySem.W.subIn K (.ref (He.ga K "NoName")) (.type "BaseException") = some true := of_decide_eq_true (AHd.nth (b := decide (PySem.W.subIn K (.ref (He.ga K "NoName")) (.type "BaseException") = some true)) e_3 12 rfl)
  have o5_NoName : PySem.W.typeIn K (.ref (He.ga K "NoName")) = some (.type "type") := of_decide_eq_true (AHd.nth (b := decide (PySem.W.typeIn K (.ref (He.ga K "NoName")) = some (.type "type"))) e_3 13 rfl)
  have o6_NoName : PySem.W.keepIn K (.ref (He.ga K "NoName")) = true := (AHd.nth (b := PySem.W.keepIn K (.ref (He.ga K "NoName"))) e_3 14 rfl)
  have o7_NoName : PySem.W.findIn K (.ref (He.ga K "NoName")) "__getattribute__" = some (some (.builtin "BaseException.__getattribute__")) := of_decide_eq_true (AHd.nth (b := decide (PySem.W.findIn K (.ref (He.ga K "NoName")) "__getattribute__" = some (some (.builtin "BaseException.__getattribute__")))) e_3 15 rfl)
  have o8_NoName : PySem.W.findIn K (.ref (He.ga K "NoName")) "__getattr__" = some none := of_decide_eq_true (AHd.nth (b := decide (PySem.W.findIn K (.ref (He.ga K "NoName")) "__getattr__" = some none)) e_3 16 rfl)
  have o9_NoName : PySem.W.hasDictIn K (He.ga K "NoName") = true := (AHd.nth (b := PySem.W.hasDictIn K (He.ga K "NoName")) e_3 17 rfl)
  have oA_NoName : PySem.W.isClsIn K (He.ga K "NoName") = true := (AHd.nth (b := PySem.W.isClsIn K (He.ga K "NoName")) e_3 18 rfl)
  have oB_NoName : PySem.W.subIn K (.ref (He.ga K "NoName")) (.ref (He.ga K "NoName")) = some true := of_decide_eq_true (AHd.nth (b := decide (PySem.W.subIn K (.ref (He.ga K "NoName")) (.ref (He.ga K "NoName")) = some true)) e_3 19 rfl)
  have e_4 : ((okL_4 K).all fun b => b) = true := AHd.nth c.okk 4 rfl
  have na_NoName_name : PySem.W.findIn K (.ref (He.ga K "NoName")) "name" = some none := of_decide_eq_true (AHd.nth (b := decide (PySem.W.findIn K (.ref (He.ga K "NoName")) "name" = some none)) e_4 0 rfl)
  have y1_Moment : PySem.W.plainGet K (He.ga K "Moment") Str.empty = true := (AHd.nth (b := PySem.W.plainGet K (He.ga K "Moment") Str.empty) e_4 1 rfl)
  have y2_Moment : PySem.W.hasDictIn K (He.ga K "Moment") = true := (AHd.nth (b := PySem.W.hasDictIn K (He.ga K "Moment")) e_4 2 rfl)
  have y3_Moment : PySem.W.plainOver K (He.ga K "Moment") = true := (AHd.nth (b := PySem.W.plainOver K (He.ga K "Moment")) e_4 3 rfl)
  have y4_Moment : PySem.W.findIn K (.ref (He.ga K "Moment")) "__setattr__" = some (some (.builtin "object.__setattr__")) := of_decide_eq_true (AHd.nth (b := decide (PySem.W.findIn K (.ref (He.ga K "Moment")) "__setattr__" = some (some (.builtin "object.__setattr__")))) e_4 4 rfl)
  have y5_Moment : PySem.W.selfFirst K (He.ga K "Moment") = true := (AHd.nth (b := PySem.W.selfFirst K (He.ga K "Moment")) e_4 5 rfl)
  have y6_Moment : PySem.W.subIn K (.ref (He.ga K "Moment")) (.type "int") = some false := of_decide_eq_true (AHd.nth (b := decide (PySem.W.subIn K (.ref (He.ga K "Moment")) (.type "int") = some false)) e_4 6 rfl)
  have y7_Moment : PySem.W.mroIn K (He.ga K "Moment") (.type "object") = some true := of_decide_eq_true (AHd.nth (b := decide (PySem.W.mroIn K (He.ga K "Moment") (.type "object") = some true)) e_4 7 rfl)
  have y8_Moment : PySem.W.findIn K (.ref (He.ga K "Moment")) "__class__" = some (some (.builtin "object.__class__")) := of_decide_eq_true (AHd.nth (b := decide (PySem.W.findIn K (.ref (He.ga K "Moment")) "__class__" = some (some (.builtin "object.__class__")))) e_4 8 rfl)
  have xn : PySem.W.specialIn K (.builtin "object.__class__") "__get__" = some (some (.builtin "getset_descriptor.__get__")) := of_decide_eq_true (AHd.nth (b := decide (PySem.W.specialIn K (.builtin "object.__class__") "__get__" = some (some (.builtin "getset_descriptor.__get__")))) e_4 9 rfl)
  have xt : PySem.W.takesIn K (.builtin "object.__class__") = some true := of_decide_eq_true (AHd.nth (b := decide (PySem.W.takesIn K (.builtin "object.__class__") = some true)) e_4 10 rfl)
  have yB_Moment : PySem.W.isClsIn K (He.ga K "Moment") = true := (AHd.nth (b := PySem.W.isClsIn K (He.ga K "Moment")) e_4 11 rfl)
  have yC_Moment : PySem.W.typeIn K (.ref (He.ga K "Moment")) = some (.type "type") := of_decide_eq_true (AHd.nth (b := decide (PySem.W.typeIn K (.ref (He.ga K "Moment")) = some (.type "type"))) e_4 12 rfl)
  have yD_Moment : PySem.W.keepIn K (.ref (He.ga K "Moment")) = true := (AHd.nth (b := PySem.W.keepIn K (.ref (He.ga K "Moment"))) e_4 13 rfl)
  have yE_Moment : PySem.W.makesIn K (He.ga K "Moment") = true := (AHd.nth (b := PySem.W.makesIn K (He.ga K "Moment")) e_4 14 rfl)
  have na_Moment_top : PySem.W.findIn K (.ref (He.ga K "Moment")) "top" = some none := of_decide_eq_true (AHd.nth (b := decide (PySem.W.findIn K (.ref (He.ga K "Moment")) "top" = some none)) e_4 15 rfl)
  have na_Moment_bottom : PySem.W.findIn K (.ref (He.ga K "Moment")) "bottom" = some none := of_decide_eq_true (AHd.nth (b := decide (PySem.W.findIn K (.ref (He.ga K "Moment")) "bottom" = some none)) e_4 16 rfl)
  have z_Moment_int : PySem.W.subIn K (.type "int") (.ref (He.ga K "Moment")) = some false := of_decide_eq_true (AHd.nth (b := decide (PySem.W.subIn K (.type "int") (.ref (He.ga K "Moment")) = some false)) e_4 17 rfl)
  have z_Moment_str : PySem.W.subIn K (.type "str") (.ref (He.ga K "Moment")) = some false := of_decide_eq_true (AHd.nth (b := decide (PySem.W.subIn K (.type "str") (.ref (He.ga K "Moment")) = some false)) e_4 18 rfl)
  have z_Moment_list : PySem.W.subIn K (.type "list") (.ref (He.ga K "Moment")) = some false := of_decide_eq_true (AHd.nth (b := decide (PySem.W.subIn K (.type "list") (.ref (He.ga K "Moment")) = some false)) e_4 19 rfl)
  have e_5 : ((okL_5 K).all fun b => b) = true := AHd.nth c.okk 5 rfl
  have z_Moment_tuple : PySem.W.subIn K (.type "tuple") (.ref (He.ga K "Moment")) = some false := of_decide_eq_true (AHd.nth (b := decide (PySem.W.subIn K (.type "tuple") (.ref (He.ga K "Moment")) = some false)) e_5 0 rfl)
  have z_Moment_NoneType : PySem.W.subIn K (.type "NoneType") (.ref (He.ga K "Moment")) = some false := of_decide_eq_true (AHd.nth (b := decide (PySem.W.subIn K (.type "NoneType") (.ref (He.ga K "Moment")) = some false)) e_5 1 rfl)
  have z_Moment_bool : PySem.W.subIn K (.type "bool") (.ref (He.ga K "Moment")) = some false := of_decide_eq_true (AHd.nth (b := decide (PySem.W.subIn K (.type "bool") (.ref (He.ga K "Moment")) = some false)) e_5 2 rfl)
  have ne_Moment : PySem.W.findIn K (.ref (He.ga K "Moment")) "__ne__" = some (some (.builtin "object.__ne__")) := of_decide_eq_true (AHd.nth (b := decide (PySem.W.findIn K (.ref (He.ga K "Moment")) "__ne__" = some (some (.builtin "object.__ne__")))) e_5 3 rfl)
  have y1_Piece : PySem.W.plainGet K (He.ga K "Piece") Str.empty = true := (AHd.nth (b := PySem.W.plainGet K (He.ga K "Piece") Str.empty) e_5 4 rfl)
  have y2_Piece : PySem.W.hasDictIn K (He.ga K "Piece") = true := (AHd.nth (b := PySem.W.hasDictIn K (He.ga K "Piece")) e_5 5 rfl)
  have y3_Piece : PySem.W.plainOver K (He.ga K "Piece") = true := (AHd.nth (b := PySem.W.plainOver K (He.ga K "Piece")) e_5 6 rfl)
  have y4_Piece : PySem.W.findIn K (.ref (He.ga K "Piece")) "__setattr__" = some (some (.builtin "object.__setattr__")) := of_decide_eq_true (AHd.nth (b := decide (PySem.W.findIn K (.ref (He.ga K "Piece")) "__setattr__" = some (some (.builtin "object.__setattr__")))) e_5 7 rfl)
  have y5_Piece : PySem.W.selfFirst K (He.ga K "Piece") = true := (AHd.nth (b := PySem.W.selfFirst K (He.ga K "Piece")) e_5 8 rfl)
  have y6_Piece : PySem.W.subIn K (.ref (He.ga K "Piece")) (.type "int") = some false := of_decide_eq_true (AHd.nth (b := decide (PySem.W.subIn K (.ref (He.ga K "Piece")) (.type "int") = some false)) e_5 9 rfl)
  have y7_Piece : PySem.W.mroIn K (He.ga K "Piece") (.type "object") = some true := of_decide_eq_true (AHd.nth (b := decide (PySem.W.mroIn K (He.ga K "Piece") (.type "object") = some true)) e_5 10 rfl)
  have y8_Piece : PySem.W.findIn K (.ref (He.ga K "Piece")) "__class__" = some (some (.builtin "object.__class__")) := of_decide_eq_true (AHd.nth (b := decide (PySem.W.findIn K (.ref (He.ga K "Piece")) "__class__" = some (some (.builtin "object.__class__")))) e_5 11 rfl)
  have yB_Piece : PySem.W.isClsIn K (He.ga K "Piece") = true := (AHd.nth (b := PySem.W.isClsIn K (He.ga K "Piece")) e_5 12 rfl)
  have yC_Piece : PySem.W.typeIn K (.ref (He.ga K "Piece")) = some (.type "type") := of_decide_eq_true (AHd.nth (b := decide (PySem.W.typeIn K (.ref (He.ga K "Piece")) = some (.type "type"))) e_5 13 rfl)
  have yD_Piece : PySem.W.keepIn K (.ref (He.ga K "Piece")) = true := (AHd.nth (b := PySem.W.keepIn K (.ref (He.ga K "Piece"))) e_5 14 rfl)
  have yE_Piece : PySem.W.makesIn K (He.ga K "Piece") = true := (AHd.nth (b := PySem.W.makesIn K (He.ga K "Piece")) e_5 15 rfl)
  have r1_Piece : PySem.W.readsIn K (He.ga K "Piece") (.type "type") = true := (AHd.nth (b := PySem.W.readsIn K (He.ga K "Piece") (.type "type")) e_5 16 rfl)
  have r2_Piece : PySem.W.specialIn K (.ref (He.ga K "Piece")) "__getattribute__" = some (some (.builtin "type.__getattribute__")) := of_decide_eq_true (AHd.nth (b := decide (PySem.W.specialIn K (.ref (He.ga K "Piece")) "__getattribute__" = some (some (.builtin "type.__getattribute__")))) e_5 17 rfl)
  have na_Piece_tree : PySem.W.findIn K (.ref (He.ga K "Piece")) "tree" = some none := of_decide_eq_true (AHd.nth (b := decide (PySem.W.findIn K (.ref (He.ga K "Piece")) "tree" = some none)) e_5 18 rfl)
  have z_Piece_int : PySem.W.subIn K (.type "int") (.ref (He.ga K "Piece")) = some false := of_decide_eq_true (AHd.nth (b := decide (PySem.W.subIn K (.type "int") (.ref (He.ga K "Piece")) = some false)) e_5 19 rfl)
  have e_6 : ((okL_6 K).all fun b => b) = true := AHd.nth c.okk 6 rfl
  have z_Piece_str : PySem.W.subIn K (.type "str") (.ref (He.ga K "Piece")) = some false := of_decide_eq_true (AHd.nth (b := decide (PySem.W.subIn K (.type "str") (.ref (He.ga K "Piece")) = some false)) e_6 0 rfl)
  have z_Piece_list : PySem.W.subIn K (.type "list") (.ref (He.ga K "Piece")) = some false := of_decide_eq_true (AHd.nth (b := decide (PySem.W.subIn K (.type "list") (.ref (He.ga K "Piece")) = some false)) e_6 1 rfl)
  have z_Piece_tuple : PySem.W.subIn K (.type "tuple") (.ref (He.ga K "Piece")) = some false := of_decide_eq_true (AHd.nth (b := decide (PySem.W.subIn K (.type "tuple") (.ref (He.ga K "Piece")) = some false)) e_6 2 rfl)
  have z_Piece_NoneType : PySem.W.subIn K (.type "NoneType") (.ref (He.ga K "Piece")) = some false := of_decide_eq_true (AHd.nth (b := decide (PySem.W.subIn K (.type "NoneType") (.ref (He.ga K "Piece")) = some false)) e_6 3 rfl)
  have z_Piece_bool : PySem.W.subIn K (.type "bool") (.ref (He.ga K "Piece")) = some false := of_decide_eq_true (AHd.nth (b := decide (PySem.W.subIn K (.type "bool") (.ref (He.ga K "Piece")) = some false)) e_6 4 rfl)
  have ne_Piece : PySem.W.findIn K (.ref (He.ga K "Piece")) "__ne__" = some (some (.builtin "object.__ne__")) := of_decide_eq_true (AHd.nth (b := decide (PySem.W.findIn K (.ref (He.ga K "Piece")) "__ne__" = some (some (.builtin "object.__ne__")))) e_6 5 rfl)
  have fo1_Piece_add : ∃ y, PySem.W.findIn K (.type "int") "__add__" = some y := AHd.someB_ok (AHd.nth (b := AHd.someB (PySem.W.findIn K (.type "int") "__add__")) e_6 6 rfl)
  have fo2_Piece_add : ∃ y, PySem.W.findIn K (.type "int") "__radd__" = some y := AHd.someB_ok (AHd.nth (b := AHd.someB (PySem.W.findIn K (.type "int") "__radd__")) e_6 7 rfl)
  have fo1_Piece_lshift : ∃ y, PySem.W.findIn K (.type "int") "__lshift__" = some y := AHd.someB_ok (AHd.nth (b := AHd.someB (PySem.W.findIn K (.type "int") "__lshift__")) e_6 8 rfl)
  have fo2_Piece_lshift : ∃ y, PySem.W.findIn K (.type "int") "__rlshift__" = some y := AHd.someB_ok (AHd.nth (b := AHd.someB (PySem.W.findIn K (.type "int") "__rlshift__")) e_6 9 rfl)
  have fo3_Piece_lshift : PySem.W.findIn K (.ref (He.ga K "Piece")) "__rlshift__" = some none := of_decide_eq_true (AHd.nth (b := decide (PySem.W.findIn K (.ref (He.ga K "Piece")) "__rlshift__" = some none)) e_6 10 rfl)
  have v_LETTERS : PySem.W.nsIn K mainGlobals "LETTERS" = some (some (AHd.conAt K "LETTERS")) ∧ RelV (.str (SX.S [97, 98, 99, 100, 101, 102, 103, 104, 105, 106, 107, 108, 109, 110, 111, 112, 113, 114, 115, 116, 117, 118, 119, 120, 121, 122])) (AHd.conAt K "LETTERS") := AHd.conB_ok (AHd.nth (b := AHd.conB K "LETTERS" (.str (SX.S [97, 98, 99, 100, 101, 102, 103, 104, 105, 106, 107, 108, 109, 110, 111, 112, 113, 114, 115, 116, 117, 118, 119, 120, 121, 122]))) e_6 11 rfl)
  have g_TABLES : PySem.W.nsIn K mainGlobals "TABLES" = some (some (.ref (He.ga K "TABLES"))) := of_decide_eq_true (AHd.nth (b := decide (PySem.W.nsIn K mainGlobals "TABLES" = some (some (.ref (He.ga K "TABLES"))))) e_6 12 rfl)
  have dp_TABLES_0 : ∃ u, PySem.W.nsIn K (He.ga K "TABLES") "|" = some (some u) ∧ RelV (.str (SX.S [48, 49, 49, 49])) u := AHd.entB_ok (AHd.nth (b := AHd.entB K (He.ga K "TABLES") "|" (.str (SX.S [48, 49, 49, 49]))) e_6 13 rfl)
  have dp_TABLES_1 : ∃ u, PySem.W.nsIn K (He.ga K "TABLES") "&" = some (some u) ∧ RelV (.str (SX.S [48, 48, 48, 49])) u := AHd.entB_ok (AHd.nth (b := AHd.entB K (He.ga K "TABLES") "&" (.str (SX.S [48, 48, 48, 49]))) e_6 14 rfl)
  have dp_TABLES_2 : ∃ u, PySem.W.nsIn K (He.ga K "TABLES") "-" = some (some u) ∧ RelV (.str (SX.S [48, 49, 48, 48])) u := AHd.entB_ok (AHd.nth (b := AHd.entB K (He.ga K "TABLES") "-" (.str (SX.S [48, 49, 48, 48]))) e_6 15 rfl)
  have dp_TABLES_3 : ∃ u, PySem.W.nsIn K (He.ga K "TABLES") "^" = some (some u) ∧ RelV (.str (SX.S [48, 49, 49, 48])) u := AHd.entB_ok (AHd.nth (b := AHd.entB K (He.ga K "TABLES") "^" (.str (SX.S [48, 49, 49, 48]))) e_6 16 rfl)
  have da_TABLES_0 : PySem.W.nsIn K (He.ga K "TABLES") "hole" = some none := of_decide_eq_true (AHd.nth (b := decide (PySem.W.nsIn K (He.ga K "TABLES") "hole" = some none)) e_6 17 rfl)
  have da_TABLES_1 : PySem.W.nsIn K (He.ga K "TABLES") "silence" = some none := of_decide_eq_true (AHd.nth (b := decide (PySem.W.nsIn K (He.ga K "TABLES") "silence" = some none)) e_6 18 rfl)
  have da_TABLES_2 : PySem.W.nsIn K (He.ga K "TABLES") "up" = some none := of_decide_eq_true (AHd.nth (b := decide (PySem.W.nsIn K (He.ga K "TABLES") "up" = some none)) e_6 19 rfl)
  have e_7 : ((okL_7 K).all fun b => b) = true := AHd.nth c.okk 7 rfl
  have da_TABLES_3 : PySem.W.nsIn K (He.ga K "TABLES") "shift" = some none := of_decide_eq_true (AHd.nth (b := decide (PySem.W.nsIn K (He.ga K "TABLES") "shift" = some none)) e_7 0 rfl)
  have da_TABLES_4 : PySem.W.nsIn K (He.ga K "TABLES") "pace" = some none := of_decide_eq_true (AHd.nth (b := decide (PySem.W.nsIn K (He.ga K "TABLES") "pace" = some none)) e_7 1 rfl)
  have da_TABLES_5 : PySem.W.nsIn K (He.ga K "TABLES") "mirror" = some none := of_decide_eq_true (AHd.nth (b := decide (PySem.W.nsIn K (He.ga K "TABLES") "mirror" = some none)) e_7 2 rfl)
  have da_TABLES_6 : PySem.W.nsIn K (He.ga K "TABLES") "only" = some none := of_decide_eq_true (AHd.nth (b := decide (PySem.W.nsIn K (He.ga K "TABLES") "only" = some none)) e_7 3 rfl)
  have da_TABLES_7 : PySem.W.nsIn K (He.ga K "TABLES") "every" = some none := of_decide_eq_true (AHd.nth (b := decide (PySem.W.nsIn K (He.ga K "TABLES") "every" = some none)) e_7 4 rfl)
  have da_TABLES_8 : PySem.W.nsIn K (He.ga K "TABLES") "nth" = some none := of_decide_eq_true (AHd.nth (b := decide (PySem.W.nsIn K (He.ga K "TABLES") "nth" = some none)) e_7 5 rfl)
  have da_TABLES_9 : PySem.W.nsIn K (He.ga K "TABLES") "turns" = some none := of_decide_eq_true (AHd.nth (b := decide (PySem.W.nsIn K (He.ga K "TABLES") "turns" = some none)) e_7 6 rfl)
  have da_TABLES_10 : PySem.W.nsIn K (He.ga K "TABLES") "cells" = some none := of_decide_eq_true (AHd.nth (b := decide (PySem.W.nsIn K (He.ga K "TABLES") "cells" = some none)) e_7 7 rfl)
  have n_abs : PySem.W.nsIn K mainGlobals "abs" = some none := of_decide_eq_true (AHd.nth (b := decide (PySem.W.nsIn K mainGlobals "abs" = some none)) e_7 8 rfl)
  have n_isinstance : PySem.W.nsIn K mainGlobals "isinstance" = some none := of_decide_eq_true (AHd.nth (b := decide (PySem.W.nsIn K mainGlobals "isinstance" = some none)) e_7 9 rfl)
  have n_int : PySem.W.nsIn K mainGlobals "int" = some none := of_decide_eq_true (AHd.nth (b := decide (PySem.W.nsIn K mainGlobals "int" = some none)) e_7 10 rfl)
  have n_list : PySem.W.nsIn K mainGlobals "list" = some none := of_decide_eq_true (AHd.nth (b := decide (PySem.W.nsIn K mainGlobals "list" = some none)) e_7 11 rfl)
  have n_staticmethod : PySem.W.nsIn K mainGlobals "staticmethod" = some none := of_decide_eq_true (AHd.nth (b := decide (PySem.W.nsIn K mainGlobals "staticmethod" = some none)) e_7 12 rfl)
  have n_property : PySem.W.nsIn K mainGlobals "property" = some none := of_decide_eq_true (AHd.nth (b := decide (PySem.W.nsIn K mainGlobals "property" = some none)) e_7 13 rfl)
  have n_sorted : PySem.W.nsIn K mainGlobals "sorted" = some none := of_decide_eq_true (AHd.nth (b := decide (PySem.W.nsIn K mainGlobals "sorted" = some none)) e_7 14 rfl)
  have n_str : PySem.W.nsIn K mainGlobals "str" = some none := of_decide_eq_true (AHd.nth (b := decide (PySem.W.nsIn K mainGlobals "str" = some none)) e_7 15 rfl)
  have n_len : PySem.W.nsIn K mainGlobals "len" = some none := of_decide_eq_true (AHd.nth (b := decide (PySem.W.nsIn K mainGlobals "len" = some none)) e_7 16 rfl)
  have n_tuple : PySem.W.nsIn K mainGlobals "tuple" = some none := of_decide_eq_true (AHd.nth (b := decide (PySem.W.nsIn K mainGlobals "tuple" = some none)) e_7 17 rfl)
  have n_range : PySem.W.nsIn K mainGlobals "range" = some none := of_decide_eq_true (AHd.nth (b := decide (PySem.W.nsIn K mainGlobals "range" = some none)) e_7 18 rfl)
  have e := hfa.symm.trans (PySem.W.mg_of X G g_law)
  cases e
  exact ⟨⟨w.params,
    _,
    d_NoMoment___init__,
    (AHd.fun_of (st := s_NoMoment___init__) F_NoMoment___init__),
    _,
    d_NoName___init__,
    (AHd.fun_of (st := s_NoName___init__) F_NoName___init__),
    _,
    d_common,
    (AHd.fun_of (st := s_common) F_common),
    (PySem.W.mg_of X G g_common),
    _,
    d_Moment___init__,
    F_Moment___init__,
    _,
    d_as_moment,
    (AHd.fun_of (st := s_as_moment) F_as_moment),
    (PySem.W.mg_of X G g_as_moment),
    _,
    d_children,
    (AHd.fun_of (st := s_children) F_children),
    (PySem.W.mg_of X G g_children),
    _,
    d_names_in,
    (AHd.fun_of (st := s_names_in) F_names_in),
    (PySem.W.mg_of X G g_names_in),
    _,
    d_shift_tree,
    (AHd.fun_of (st := s_shift_tree) F_shift_tree),
    (PySem.W.mg_of X G g_shift_tree),
    _,
    d_Piece___init__,
    (AHd.fun_of (st := s_Piece___init__) F_Piece___init__),
    _,
    d_Piece_named,
    (AHd.fun_of (st := s_Piece_named) F_Piece_named),
    _,
    d_Piece_silence,
    (AHd.fun_of (st := s_Piece_silence) F_Piece_silence),
    _,
    d_Piece_holes,
    (AHd.fun_of (st := s_Piece_holes) F_Piece_holes),
    _,
    d_Piece___or__,
    (AHd.fun_of (st := s_Piece___or__) F_Piece___or__),
    _,
    d_Piece___sub__,
    (AHd.fun_of (st := s_Piece___sub__) F_Piece___sub__),
    _,
    d_Piece___add__,
    (AHd.fun_of (st := s_Piece___add__) F_Piece___add__),
    _,
    d_Piece___radd__,
    (AHd.fun_of (st := s_Piece___radd__) F_Piece___radd__),
    _,
    d_Piece___lshift__,
    (AHd.fun_of (st := s_Piece___lshift__) F_Piece___lshift__),
    _,
    d_Piece___neg__,
    (AHd.fun_of (st := s_Piece___neg__) F_Piece___neg__),
    _,
    d_Piece_only,
    F_Piece_only,
    _,
    d_Piece_every,
    F_Piece_every,
    _,
    d_Piece_nth,
    (AHd.fun_of (st := s_Piece_nth) F_Piece_nth),
    _,
    d_good_name,
    (AHd.fun_of (st := s_good_name) F_good_name),
    (PySem.W.mg_of X G g_good_name),
    _,
    d_turns,
    (AHd.fun_of (st := s_turns) F_turns),
    (PySem.W.mg_of X G g_turns),
    _,
    d__law_cell,
    (AHd.fun_of (st := s__law_cell) F__law_cell),
    (PySem.W.mg_of X G g__law_cell),
    _,
    d__law_row,
    (AHd.fun_of (st := s__law_row) F__law_row),
    (PySem.W.mg_of X G g__law_row),
    _,
    d__law_sign,
    (AHd.fun_of (st := s__law_sign) F__law_sign),
    (PySem.W.mg_of X G g__law_sign),
    _,
    d__law_spoilt,
    (AHd.fun_of (st := s__law_spoilt) F__law_spoilt),
    (PySem.W.mg_of X G g__law_spoilt),
    _,
    d__law_name,
    (AHd.fun_of (st := s__law_name) F__law_name),
    (PySem.W.mg_of X G g__law_name),
    _,
    d__law_is_name,
    (AHd.fun_of (st := s__law_is_name) F__law_is_name),
    (PySem.W.mg_of X G g__law_is_name),
    _,
    d__law_taken,
    (AHd.fun_of (st := s__law_taken) F__law_taken),
    (PySem.W.mg_of X G g__law_taken),
    _,
    d__law_unlike,
    (AHd.fun_of (st := s__law_unlike) F__law_unlike),
    (PySem.W.mg_of X G g__law_unlike),
    _,
    d_law,
    (AHd.fun_of (st := s_law) F_law),
    (PySem.W.mg_of X G g_law),
    _,
    (PySem.W.mg_of X G g_AnytuneError),
    ⟨r1_AnytuneError, r2_AnytuneError⟩,
    r3_AnytuneError,
    _,
    (PySem.W.mg_of X G g_NoMoment),
    ⟨o1_NoMoment, o3_NoMoment, o4_NoMoment, o5_NoMoment, o6_NoMoment⟩,
    ⟨o7_NoMoment, o8_NoMoment, o4_NoMoment, o9_NoMoment⟩,
    (exm_own o4_NoMoment oA_NoMoment o5_NoMoment oB_NoMoment),
    na_NoMoment_top,
    na_NoMoment_bottom,
    _,
    (PySem.W.mg_of X G g_NoName),
    ⟨o1_NoName, o3_NoName, o4_NoName, o5_NoName, o6_NoName⟩,
    ⟨o7_NoName, o8_NoName, o4_NoName, o9_NoName⟩,
    (exm_own o4_NoName oA_NoName o5_NoName oB_NoName),
    na_NoName_name,
    _,
    (PySem.W.mg_of X G g_Moment),
    ⟨⟨y1_Moment, y2_Moment, y3_Moment, y4_Moment⟩, y5_Moment, y6_Moment, y7_Moment, y8_Moment, xn, xt⟩,
    yB_Moment,
    yC_Moment,
    yD_Moment,
    yE_Moment,
    na_Moment_top,
    na_Moment_bottom,
    z_Moment_int,
    z_Moment_str,
    z_Moment_list,
    z_Moment_tuple,
    z_Moment_NoneType,
    z_Moment_bool,
    ne_Moment,
    _,
    (PySem.W.mg_of X G g_Piece),
    ⟨⟨y1_Piece, y2_Piece, y3_Piece, y4_Piece⟩, y5_Piece, y6_Piece, y7_Piece, y8_Piece, xn, xt⟩,
    yB_Piece,
    yC_Piece,
    yD_Piece,
    yE_Piece,
    na_Piece_tree,
    z_Piece_int,
    z_Piece_str,
    z_Piece_list,
    z_Piece_tuple,
    z_Piece_NoneType,
    z_Piece_bool,
    ne_Piece,
    ⟨dn_add.symm ▸ ⟨x_Piece___add__, f_Piece___add__⟩, .inr (dr_add.symm ▸ ⟨x_Piece___radd__, f_Piece___radd__⟩), dn_add.symm ▸ fo1_Piece_add, dr_add.symm ▸ fo2_Piece_add, z_Piece_int⟩,
    ⟨dn_lshift.symm ▸ ⟨x_Piece___lshift__, f_Piece___lshift__⟩, .inl (dr_lshift.symm ▸ fo3_Piece_lshift), dn_lshift.symm ▸ fo1_Piece_lshift, dr_lshift.symm ▸ fo2_Piece_lshift, z_Piece_int⟩,
    ⟨x_NoMoment___init__, f_NoMoment___init__⟩,
    ⟨x_NoName___init__, f_NoName___init__⟩,
    ⟨x_Moment___init__, f_Moment___init__⟩,
    ⟨x_Piece___init__, f_Piece___init__⟩,
    ⟨⟨r1_Piece, r2_Piece⟩, _, sx_Piece_named, sy_Piece_named⟩,
    ⟨⟨r1_Piece, r2_Piece⟩, _, sx_Piece_silence, sy_Piece_silence⟩,
    ⟨_, px_Piece_holes, pg_Piece_holes, pt_Piece_holes, py_Piece_holes⟩,
    ⟨x_Piece___or__, f_Piece___or__⟩,
    ⟨x_Piece___sub__, f_Piece___sub__⟩,
    ⟨x_Piece___add__, f_Piece___add__⟩,
    ⟨x_Piece___radd__, f_Piece___radd__⟩,
    ⟨x_Piece___lshift__, f_Piece___lshift__⟩,
    ⟨x_Piece___neg__, f_Piece___neg__⟩,
    ⟨x_Piece_only, f_Piece_only⟩,
    ⟨x_Piece_every, f_Piece_every⟩,
    ⟨x_Piece_nth, f_Piece_nth⟩,
    _,
    (PySem.W.mg_of X G v_LETTERS.1),
    v_LETTERS.2,
    _,
    (PySem.W.mg_of X G g_TABLES),
    (fun w' e => ⟨te_TABLES, tn_TABLES, ⟨tk_TABLES.at_, e ▸ tk_TABLES.lit, tk_TABLES.low⟩⟩),
    dp_TABLES_0,
    dp_TABLES_1,
    dp_TABLES_2,
    dp_TABLES_3,
    da_TABLES_0,
    da_TABLES_1,
    da_TABLES_2,
    da_TABLES_3,
    da_TABLES_4,
    da_TABLES_5,
    da_TABLES_6,
    da_TABLES_7,
    da_TABLES_8,
    da_TABLES_9,
    da_TABLES_10,
    (PySem.W.mg_none_of X G n_abs),
    (PySem.W.mg_none_of X G n_isinstance),
    (PySem.W.mg_none_of X G n_int),
    (PySem.W.mg_none_of X G n_list),
    (PySem.W.mg_none_of X G n_staticmethod),
    (PySem.W.mg_none_of X G n_property),
    (PySem.W.mg_none_of X G n_sorted),
    (PySem.W.mg_none_of X G n_str),
    (PySem.W.mg_none_of X G n_len),
    (PySem.W.mg_none_of X G n_tuple),
    (PySem.W.mg_none_of X G n_range)⟩, rfl, rfl⟩
abbrev Rw : PySem.W.OpenRow := PySem.W.OpenLaw.row PySem.Challenge.rw_anytune_k15_names_of_holes
abbrev Qw : Program := PySem.W.view Rw.prog [88]
abbrev Hw : PySem.W.Hook := AHd.hk 1500 okB fnL tsL
theorem run_allf (w : World) : HandSHeadRun.RunEq Rw Qw Hw (AHd.ob 1500 okB fnL tsL) 20000 nmL (World.withFollow w "special-get-raises" false) := by
  intro os
  kernel_rfl
theorem run_allt (w : World) : HandSHeadRun.RunEq Rw Qw Hw (AHd.ob 1500 okB fnL tsL) 20000 nmL (World.withFollow w "special-get-raises" true) := by
  intro os
  kernel_rfl
theorem run_all (w : World) : HandSHeadRun.RunEq Rw Qw Hw (AHd.ob 1500 okB fnL tsL) 20000 nmL w := PySem.W.byRow2 "special-get-raises" (P := fun w => HandSHeadRun.RunEq Rw Qw Hw (AHd.ob 1500 okB fnL tsL) 20000 nmL w) run_allf run_allt w
end AT
open PySem PySem.W PySem.Calls PyProof.Rows
set_option maxRecDepth 100000 in
set_option maxHeartbeats 0 in
theorem PySem.Challenge.cw_anytune_k15_names_of_holes_holds : PySem.Challenge.rw_anytune_k15_names_of_holes.Holds := by
  w_on; o_law
  refine HandSHeadRun.head_any (r := AT.Rw) (q := AT.Qw) (H := AT.Hw) (ob := AHd.ob 1500 AT.okB AT.fnL AT.tsL) (M := 20000) (loose := AT.nmL) (d := HandSHeadRun.topDef AT.Rw.prog 88) (kwd := []) AHd.ob_eq
    (by kernel_rfl) (fun s => by kernel_rfl) AT.run_all (by kernel_rfl) (by kernel_rfl) (by kernel_rfl) (by rfl) (by first | assumption | decide +kernel) (by decide +kernel) ⟨rfl, rfl, rfl, rfl, rfl, by decide +kernel⟩ ?hw ?hc
  case hw => w_witness2
  case hc =>
    refine L2.walk_ofE (l := PySem.Challenge.rw_anytune_k15_names_of_holes) (n := 63) (k := 10) (x := "_law_script") (CX := L2.CX0) rfl (by decide) (by kernel_rfl) ⟨rfl, by decide, by decide⟩ ?F (fun _ _ _ _ z => z)
    intro w mg fa h Y G hmg0
    obtain ⟨K, KX, c⟩ := Y
    have hmg : mg ("law" : PySem.Str) = some (.ref fa) := by
      have e : (HandSHeadRun.topDef AT.Rw.prog 88).name = ("law" : PySem.Str) := by kernel_rfl
      rw [← e]
      exact hmg0
    obtain ⟨T, rfl, hw⟩ := AT.facts_of KX G hmg c
    refine ⟨K, T.d_law, AT.spLaw K, KX, fun s v => ?_, fun _ a ns hl _ hS => ⟨a, ns, rfl, hS, hl, fun _ => rfl⟩, fun base _ _ => AT.ok_law T hw⟩
    obtain ⟨oc, od, kV, doc, pm, an, cdv, ct, osl, e, _⟩ := T.F_law.ex
    rw [e]
    exact .of_eq rfl
#print axioms PySem.Challenge.cw_anytune_k15_names_of_holes_holds
