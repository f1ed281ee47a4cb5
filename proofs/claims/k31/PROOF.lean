import PyProof.Rows.All
import Wide.All
import OpenK.AllK
import Wide.FinOn
import KE.KOpsOwn
import KE.KEqDict
import HandS.ForMost
import HandS.IsInst
import HandS.More
import HandS.SlotsOwn
import KE.KDictPairs
import HandS.DictComp
import KE.KExcSuper
import KE.KSuper
import HandS.Exc
import HandS.TryOnly
import HandS.ExcOwn
import HandS.Wide
import HandS.Codes
import KE.KEqSeq
import HandS.Walk
import HandS.Defaults
import HandS.WordsExc
import HandS.ListItems
import HandS.OwnEq
import HandS.Lambda
import HandS.EndTab
import PySem.Challenge.RW_bindspan_k31_whole_env_expressions
set_option Elab.async false
set_option linter.all false
set_option maxRecDepth 100000
set_option maxHeartbeats 4000000
/-! Own operators of an instance, at the library's level. -/
namespace K31
open PySem PySem.Spec PyProof.Rows PySem.W
section
variable {prog : Program} {w : World} {A : Around} {E : Value → Shared → Prop} {s : Shared} {K : Frag} {x C L f f0 : Addr} {h0 : Heap} {m : Str → Option Value} {ox : Obj} {od : Option Obj} {T : String}

/-- x op b, the instance on the left, b of a built-in type -/
theorem bin_left {op : Operator} {b : Value} {fo ro rc : Option Value} {Q : Value → Shared → Prop} (F : Fr h0 L s.heap m) (X0 : K.In h0) (I : InstAt s.heap x ox C od) (hb : Looks (model prog w) s.heap (typeOf b) (.type T)) (hc : selfFirst K C = true)
    (hs : findIn K (.ref C) (PySem.dunder op.info.2) = some (some (.ref f))) (hf : isFn K (.ref f) = true) (hr : findIn K (.ref C) (dunderR op.info.2) = some rc) (hp : rc = none ∨ ∃ g : Addr, rc = some (.ref g))
    (h1 : findIn K (.type T) (PySem.dunder op.info.2) = some fo) (h2 : findIn K (.type T) (dunderR op.info.2) = some ro) (hsub : subIn K (.type T) (.ref C) = some false)
    (h : wpAny (model prog w) A (call (.ref f) [.ref x, b]) (W.CmpBack Q) E s) : wpAny (model prog w) A (binaryOp op (.ref x) b) Q E s := by
  have X := X0.keeps F.keep
  obtain ⟨cd, rest, hcd, hm⟩ := ksp_first hc
  rcases hi : op.info with ⟨sym, nm'⟩
  rw [hi] at hs hr h1 h2
  dsimp only at hs hr h1 h2
  have one := ksp_try X I hs hf h
  obtain ⟨hh, g, d, tt, os⟩ := s
  have L1 : Looks (model prog w) hh (typeOf (.ref x)) (.ref C) := I.type
  have L2 : Looks (model prog w) hh (typeOf b) (.type T) := hb
  have L3 : Looks (model prog w) hh (fillsNumberSlot (.ref C) nm') true := fills_K X hcd hm hs
  have L4 : Looks (model prog w) hh (fillsNumberSlot (.type T) nm') ((fo.isSome && !isSeqSlot fo) || (ro.isSome && !isSeqSlot ro)) := ksp_fillsT X h1 h2
  have L5 : Looks (model prog w) hh (isSubtype (.type T) (.ref C)) false := looks_subIn X hsub
  have L6 : Looks (model prog w) hh (numberSlotInPython (.ref C) nm') true := ksp_inPy X hs hr hp
  have L7 : Looks (model prog w) hh (numberSlotInPython (.type T) nm') false := Looks.of_pure rfl
  have L8 : Looks (model prog w) hh (typeLookup (.type T) (dunderR nm')) ro := looks_findIn X h2
  generalize ((fo.isSome && !isSeqSlot fo) || (ro.isSome && !isSeqSlot ro)) = right at L4
  have hne : (Value.ref C == Value.type T) = false := Bool.eq_false_iff.mpr fun q => by cases beq_iff_eq.mp q
  simp only [binaryOp, hi]
  refine wpAny_holding (wpAny_bind ?_)
  unfold binaryOp1
  refine wpAny_bind (L1.at (wpAny_bind (L2.at (wpAny_bind (L3.at ?_)))))
  simp only [hne, Bool.false_eq_true, if_false]
  cases right with
  | false =>
    ksp_lk
    refine wpAny_mono one (fun r s' hr' => ?_) fun _ _ e => e
    obtain ⟨v, rfl, hq⟩ := hr'
    ksp_lk
    exact hq
  | true =>
    ksp_lk
    refine wpAny_mono one (fun r s' hr' => ?_) fun _ _ e => e
    obtain ⟨v, rfl, hq⟩ := hr'
    ksp_lk
    exact hq

/-- a op x, the instance on the right, a of a built-in type whose own op (if it has one) declines -/
theorem bin_right {op : Operator} {a : Value} {fo ro : Option Value} {Q : Value → Shared → Prop} (F : Fr h0 L s.heap m) (X0 : K.In h0) (I : InstAt s.heap x ox C od) (ha : Looks (model prog w) s.heap (typeOf a) (.type T)) (hc : selfFirst K C = true)
    (hs0 : findIn K (.ref C) (PySem.dunder op.info.2) = some (some (.ref f0)))
    (hs : findIn K (.ref C) (dunderR op.info.2) = some (some (.ref f))) (hf : isFn K (.ref f) = true)
    (h1 : findIn K (.type T) (PySem.dunder op.info.2) = some fo) (h2 : findIn K (.type T) (dunderR op.info.2) = some ro) (hsub : subIn K (.ref C) (.type T) = some false)
    (hdecl : ((fo.isSome && !isSeqSlot fo) || (ro.isSome && !isSeqSlot ro)) = true → ∀ (Q' : Option Value → Shared → Prop), Q' none s → wpAny (model prog w) A (tryMethod a (PySem.dunder op.info.2) (.ref x)) Q' E s)
    (h : wpAny (model prog w) A (call (.ref f) [.ref x, a]) (W.CmpBack Q) E s) : wpAny (model prog w) A (binaryOp op a (.ref x)) Q E s := by
  have X := X0.keeps F.keep
  obtain ⟨cd, rest, hcd, hm⟩ := ksp_first hc
  rcases hi : op.info with ⟨sym, nm'⟩
  rw [hi] at hs0 hs h1 h2 hdecl
  dsimp only at hs0 hs h1 h2 hdecl
  have one := ksp_try X I hs hf h
  obtain ⟨hh, g, d, tt, os⟩ := s
  have L1 : Looks (model prog w) hh (typeOf (.ref x)) (.ref C) := I.type
  have L2 : Looks (model prog w) hh (typeOf a) (.type T) := ha
  have L3 : Looks (model prog w) hh (fillsNumberSlot (.ref C) nm') true := fills_K X hcd hm hs0
  have L4 : Looks (model prog w) hh (fillsNumberSlot (.type T) nm') ((fo.isSome && !isSeqSlot fo) || (ro.isSome && !isSeqSlot ro)) := ksp_fillsT X h1 h2
  have L5 : Looks (model prog w) hh (isSubtype (.ref C) (.type T)) false := looks_subIn X hsub
  have L7 : Looks (model prog w) hh (numberSlotInPython (.type T) nm') false := Looks.of_pure rfl
  generalize ((fo.isSome && !isSeqSlot fo) || (ro.isSome && !isSeqSlot ro)) = left at L4 hdecl
  have hne : (Value.type T == Value.ref C) = false := Bool.eq_false_iff.mpr fun q => by cases beq_iff_eq.mp q
  simp only [binaryOp, hi]
  refine wpAny_holding (wpAny_bind ?_)
  unfold binaryOp1
  refine wpAny_bind (L2.at (wpAny_bind (L1.at (wpAny_bind (L4.at ?_)))))
  simp only [hne, Bool.false_eq_true, if_false]
  cases left with
  | false =>
    ksp_lk
    refine wpAny_mono one (fun r s' hr' => ?_) fun _ _ e => e
    obtain ⟨v, rfl, hq⟩ := hr'
    ksp_lk
    exact hq
  | true =>
    ksp_lk
    refine hdecl rfl _ ?_
    ksp_lk
    refine wpAny_mono one (fun r s' hr' => ?_) fun _ _ e => e
    obtain ⟨v, rfl, hq⟩ := hr'
    ksp_lk
    exact hq

/-- int.__or__, bool.__or__, dict.__or__ of an instance of the program's own: declined -/
theorem int_or_declines {i : Int} {t : Tok} {Q : Option Value → Shared → Prop} (I : InstAt s.heap x ox C od) (hp : ox.data = .plain) (h : Q none s) : wpAny (model prog w) A (tryMethod (.int i t) (PySem.dunder "or") (.ref x)) Q E s := by
  have ho := I.at_
  refine wpAny_tryMethod_declines (typeIs_int s i t) slot_int_or ?_
  refine wpAny_call_entry slot_int_or (typeIs_int s i t) entry_int_or ?_ (args_int_or _ _)
  obtain ⟨hh, g, d, tt, os⟩ := s
  wp_walk using wpAny_load ho
  rw [hp]
  wp_walk
  exact ⟨_, rfl, rfl, h⟩
theorem bool_or_declines {b : Bool} {Q : Option Value → Shared → Prop} (I : InstAt s.heap x ox C od) (hp : ox.data = .plain) (h : Q none s) : wpAny (model prog w) A (tryMethod (.bool b) (PySem.dunder "or") (.ref x)) Q E s := by
  have ho := I.at_
  refine wpAny_tryMethod_declines (typeIs_bool' s b) F.slot_bool_or ?_
  refine wpAny_call_entry F.slot_bool_or (typeIs_bool' s b) F.entry_bool_or ?_ (F.args_bool_or_2 _ _)
  obtain ⟨hh, g, d, tt, os⟩ := s
  wp_walk using wpAny_load ho
  rw [hp]
  wp_walk
  exact ⟨_, rfl, rfl, h⟩
theorem dict_or_declines {a : Addr} {Q : Option Value → Shared → Prop} (X : K.In s.heap) (hT : s.TypeIs (.ref a) "dict") (I : InstAt s.heap x ox C od) (hsub : subIn K (.ref C) (.type "dict") = some false) (h : Q none s) : wpAny (model prog w) A (tryMethod (.ref a) (PySem.dunder "or") (.ref x)) Q E s := by
  have hI : Looks (model prog w) s.heap (isInstance (.ref x) (.type "dict")) false := I.type.andThen (looks_subIn X hsub)
  refine wpAny_tryMethod_declines hT F.slot_dict_or ?_
  refine wpAny_call_entry F.slot_dict_or hT F.entry_dict_or ?_ (F.args_dict_or_2 _ _)
  show wpAny _ _ (Builtin.Dict.dictSlotArgs "__or__" ⟨[.ref a, .ref x], []⟩ >>= _) _ _ s
  refine wpAny_bind ?_
  unfold Builtin.Dict.dictSlotArgs
  refine wpAny_bind (wpAny_notOrdered_dict hT ?_)
  show wpAny _ _ (pure (Value.ref a, Value.ref x)) _ _ s
  refine wpAny_pure ?_
  have hA : wpAny (model prog w) A.in1 (isInstance (.ref a) (.type "dict") <&&> isInstance (.ref x) (.type "dict")) (fun r s' => r = false ∧ s' = s) E s := by
    refine wpAny_bind (wpAny_isInstance (T := "dict") hT PySem.F.sub_dict_dict ?_)
    exact hI.here ⟨rfl, rfl⟩
  trace_state
  with_unfolding_all refine wpAny_bind (wpAny_mono hA (fun r s' hr => ?_) fun _ _ e => e)
  obtain ⟨rfl, rfl⟩ := hr
  trace_state
  wp_walk
  exact ⟨_, rfl, rfl, h⟩
end
end K31
set_option Elab.async false
set_option linter.all false
set_option maxRecDepth 100000
set_option maxHeartbeats 4000000
/-! Own operators of an instance, over the layer. -/
namespace K31
open PySem PySem.Spec PyProof.Rows L2

/-- not equal by an own __eq__: object's __ne__ asks it -/
theorem ne_ent {prog : Program} {w : World} {A : Around} {E : Value → Shared → Prop} {K : PySem.W.Frag} {x C f : Addr} {ox : Obj} {od : Option Obj} {b : Value} {s : Shared} {Q : Fin → Shared → Prop} (hu : A.units < cLine) (X : K.In s.heap) (I : PySem.W.InstAt s.heap x ox C od)
    (hs : PySem.W.findIn K (.ref C) "__eq__" = some (some (.ref f))) (hf : PySem.W.isFn K (.ref f) = true)
    (h : wpAny (model prog w) A (call (.ref f) [.ref x, b]) (fun v s' => ∃ c, v = .bool c ∧ Q (.done (.ret (.bool (!c)))) s') E s) :
    wpAny (model prog w) A (Builtin.«object.__ne__» ⟨[.ref x, b], []⟩) Q E s := by
  have hcall : wpAny (model prog w) A (callSpecialIfBound? (.ref x) (Str.ofString "__eq__") [b]) (fun r s' => ∃ c, r = some (.bool c) ∧ Q (.done (.ret (.bool (!c)))) s') E s :=
    PySem.W.ifBound_K X I hs hf (wpAny_mono h (fun v s' ⟨c, e, q⟩ => ⟨c, by rw [e], q⟩) fun _ _ e => e)
  obtain ⟨hh, g, d, tt, os⟩ := s
  unfold Builtin.«object.__ne__»
  repeat (first
    | with_reducible refine wpAny_cRoomFor hu ?_
    | (refine wpAny_bind (m := callSpecialIfBound? (.ref x) (Str.ofString "__eq__") [b]) (wpAny_mono hcall (fun r s' hr => by
          obtain ⟨c, rfl, hq⟩ := hr
          repeat (first | exact hq | exact wpAny_pure hq | exact wpAny_truthy_bool hq | (refine wpAny_bind (m := truthy (.bool _)) (wpAny_truthy_bool ?_)) | wp_step)) fun _ _ e => e))
    | wp_step)
theorem ne_own {prog : Program} {w : World} {A : Around} {E : Value → Shared → Prop} {K : PySem.W.Frag} {x C f : Addr} {ox : Obj} {od : Option Obj} {b : Value} {s : Shared} {Q : Value → Shared → Prop} (hu : A.units + 1 < cLine) (X : K.In s.heap) (I : PySem.W.InstAt s.heap x ox C od)
    (hb : PySem.W.Looks (model prog w) s.heap (typeOf b) (.ref C)) (hn : PySem.W.findIn K (.ref C) "__ne__" = some (some (.builtin "object.__ne__"))) (hm : PySem.W.mroIn K C (.type "object") = some true)
    (hs : PySem.W.findIn K (.ref C) "__eq__" = some (some (.ref f))) (hf : PySem.W.isFn K (.ref f) = true)
    (h : wpAny (model prog w) A.in1 (call (.ref f) [.ref x, b]) (fun v s' => ∃ c, v = .bool c ∧ Q (.bool (!c)) s') E s) : wpAny (model prog w) A (richCompare .NotEq (.ref x) b) Q E s := by
  have hI : PySem.W.Looks (model prog w) s.heap (isInstance (.ref x) (.type "object")) true := I.type.andThen (PySem.W.looks_mroIn X hm)
  have hcall : wpAny (model prog w) A (call (.builtin "object.__ne__") [.ref x, b]) (fun v s' => ∃ c, v = .bool (!c) ∧ Q (.bool (!c)) s') E s := by
    refine wpAny_call (codeAny_call_builtin PySem.F.slot_tuple_iterator_ne.plain F.cmpEntry_ne (PySem.W.check_slot F.cmpKind_ne F.cmpSplit_ne hI (F.cmpArgs_ne _ _) ?_))
    exact ne_ent (A := A.in1) (by exact hu) X I hs hf (wpAny_mono h (fun v s' ⟨c, e, q⟩ => ⟨c, e, c, rfl, q⟩) fun _ _ e => e)
  have one : wpAny (model prog w) A (tryCompare (.ref x) "__ne__" b) (fun r s' => ∃ v, r = some v ∧ Q v s') E s := by
    unfold tryCompare
    refine wpAny_bind ?_
    simp only [callSpecialIfBound?, bindSpecialIfBound?]
    refine wpAny_holding (wpAny_bind (wpAny_bind (wpAny_bind (I.type.here ((PySem.W.looks_findIn X hn).here ?_)))))
    have bd : ∀ v : Value, bindSpecial (.builtin "object.__ne__") v = pure (.builtin "object.__ne__", [v]) := fun v => PySem.F.slot_tuple_iterator_ne.bind v
    refine wpAny_bind (wpAny_askSetting (wpAny_ite ?_))
    have fin : wpAny (model prog w) A (call (.builtin "object.__ne__") ([.ref x] ++ [b]) >>= fun v => pure (some v)) (fun r s' => wpAny (model prog w) A (match r with | some .notImplemented | none => pure none | some v => pure (some v)) (fun r s' => ∃ v, r = some v ∧ Q v s') E s') E s :=
      wpAny_bind (wpAny_mono hcall (fun v s' ⟨c, e, q⟩ => by subst e; exact wpAny_pure (wpAny_pure ⟨_, rfl, q⟩)) fun _ _ h' => h')
    split
    · exact wpAny_bind (wpAny_of_eq (bd _) (wpAny_pure (by exact fin)))
    · exact wpAny_tryCatch (wpAny_bind (wpAny_of_eq (bd _) (wpAny_pure (by exact fin))))
  unfold richCompare
  simp only [oneThing_ref]
  refine wpAny_holding (wpAny_bind (wpAny_cRoomFor (Nat.lt_of_succ_lt hu) ?_))
  rw [cmpInfo_NotEq]
  dsimp only
  refine wpAny_bind (I.type.here (wpAny_bind (hb.here ?_)))
  rw [show (Value.ref C != Value.ref C) = false from by simp]
  simp only [Bool.false_eq_true, if_false]
  refine wpAny_bind (wpAny_pure ?_)
  simp only [Bool.false_eq_true, if_false]
  refine wpAny_bind (wpAny_mono one (fun r s' z => ?_) fun _ _ e => e)
  obtain ⟨v, rfl, hq⟩ := z
  exact wpAny_pure hq

theorem ty_int {K : PySem.W.Frag} {H : Hp} {x : V} {t : Value} (h : TyX K H x t) (e : t = .type "int") : ∃ i, x = .int i := by
  cases h with
  | base q => cases q <;> first | exact ⟨_, rfl⟩ | exact absurd (Value.type.inj e) (by decide) | cases e
  | _ => exact absurd (Value.type.inj e) (by decide)
theorem ty_bool {K : PySem.W.Frag} {H : Hp} {x : V} {t : Value} (h : TyX K H x t) (e : t = .type "bool") : ∃ i, x = .bl i := by
  cases h with
  | base q => cases q <;> first | exact ⟨_, rfl⟩ | exact absurd (Value.type.inj e) (by decide) | cases e
  | _ => exact absurd (Value.type.inj e) (by decide)
theorem ty_dict {X : Cx} {pins : List (Addr × Obj)} {σ : L2.St} {H : Hp} {s : Shared} (I : Inv X pins σ H s) {x : V} {v t : Value} (rx : RelV x v) (ty : TyX X.K H x t) (e : t = .type "dict") : ∃ a, v = .ref a ∧ s.TypeIs (.ref a) "dict" := by
  cases ty with
  | base q =>
    cases q with
    | @dK a kvs ez =>
      cases (show v = Value.ref a from rx)
      obtain ⟨_, _, vs, _, o, es, ep, h1, h2, _⟩ := (show ObjOk X.prog X.w H s.heap a (.dK kvs) from I.hok a _ ez)
      exact ⟨a, rfl, o, h1, h2.1⟩
    | @dT a kvs ez =>
      cases (show v = Value.ref a from rx)
      obtain ⟨_, _, xs, _, o, es, ep, h1, h2, _⟩ := (show ObjOk X.prog X.w H s.heap a (.dT kvs) from I.hok a _ ez)
      exact ⟨a, rfl, o, h1, h2.1⟩
    | ins => cases e
    | _ => exact absurd (Value.type.inj e) (by decide)
  | @kDict a o ez c =>
    cases (show v = Value.ref a from rx)
    exact ⟨a, rfl, o, I.kIn a o ez, c⟩
  | @fDict a ob kvs ea =>
    cases (show v = Value.ref a from rx)
    obtain ⟨_, _, _, vs, _, o, es, ep, h1, h2, _⟩ := (show ObjOk X.prog X.w H s.heap a (.frz ob (.dK kvs)) from I.hok a _ ea)
    exact ⟨a, rfl, o, h1, h2.1⟩
  | _ => exact absurd (Value.type.inj e) (by decide)
/-- what an op asks of the other operand's built-in type -/
def BinT (K : PySem.W.Frag) (C : Addr) (op : Operator) (T : String) : Prop :=
  ∃ fo ro, PySem.W.findIn K (.type T) (PySem.dunder op.info.2) = some fo ∧ PySem.W.findIn K (.type T) (dunderR op.info.2) = some ro ∧ PySem.W.subIn K (.type T) (.ref C) = some false
def rOwnL (K : PySem.W.Frag) (C : Addr) (op : Operator) (sp : Sp) (E : XK) : R2 := fun x y H Q => ∃ a dx fs, x = .ref a ∧ H a = some (.ins C dx fs) ∧
  ((∃ b dy gs, y = .ref b ∧ H b = some (.ins C dy gs)) ∨ ∃ T, TyX K H y (.type T) ∧ BinT K C op T) ∧ sp [x, y] H Q E
section
variable {X : Cx} {CX : CXT} {pins : List (Addr × Obj)} {σ : L2.St} {H : Hp} {s : Shared} {C g g0 : Addr} {n : Nat} {sp : Sp} {E : XK}
theorem inst_of (I : Inv X pins σ H s) {a dx : Addr} {fs : List (Str × V)} (h : H a = some (.ins C dx fs)) : ∃ od, PySem.W.InstAt s.heap a (PySem.W.instObj C dx) C (some od) := by
  obtain ⟨mA, O, _⟩ := ins_get I.hok h
  obtain ⟨od, J, _⟩ := O.look
  exact ⟨od, J⟩
theorem run_atA {A : Around} {Q : VK} {us : List Value} {ws : List V} (F : FnR X.prog X.w X.K X.mg X.base CX n g sp) (hr : Room n A) (e0 : Env0 X.prog X.w X.K X.mg X.base A X.stack s H) (hx : Passes CX X E) (I : Inv X pins σ H s) (r : Vals ws us) (h : sp ws H Q E) :
    wpAny (model X.prog X.w) A (call (.ref g) us) (EP X pins σ Q) X.xe s := by
  refine wpAny_call (codeAny_mono (F A X.stack s H us ws Q E hr e0 r h) fun r s' hq => ?_)
  cases r with
  | error e => exact hx pins σ H s e s' I hq
  | ok fl =>
    cases fl with
    | ret u => exact I.after hq
    | next => exact False.elim hq
    | brk => exact False.elim hq
    | cont => exact False.elim hq
theorem op_left {op : Operator} {rc : Option Value} (hc : PySem.W.selfFirst X.K C = true) (hs : PySem.W.findIn X.K (.ref C) (PySem.dunder op.info.2) = some (some (.ref g))) (hf : PySem.W.isFn X.K (.ref g) = true)
    (hrr : PySem.W.findIn X.K (.ref C) (dunderR op.info.2) = some rc) (hp : rc = none ∨ ∃ q : Addr, rc = some (.ref q)) (F : FnR X.prog X.w X.K X.mg X.base CX n g sp) (hr : Room n X.A) (hx : Passes CX X E) :
    OpR X (binaryOp op) (rOwnL X.K C op sp E) := by
  intro pins s σ H x y v u Q I rx ry h
  obtain ⟨a, dx, fs, rfl, ha, hy, q⟩ := h
  cases (show v = Value.ref a from rx)
  obtain ⟨od, J⟩ := inst_of I ha
  obtain ⟨m, hF⟩ := I.fr
  have hcall : wpAny (model X.prog X.w) X.A (call (.ref g) [.ref a, u]) (PySem.W.CmpBack (EP X pins σ Q)) X.xe s := by
    refine wpAny_mono (run_atA (us := [.ref a, u]) (ws := [.ref a, y]) F hr I.env0 hx I (.cons rfl (.cons ry .nil)) q) (fun w s' z => ?_) fun _ _ x => x
    obtain ⟨z', H', I', rz, qz⟩ := z
    exact SlX.cmpback rz ⟨z', H', I', rz, qz⟩
  rcases hy with ⟨b, dy, gs, rfl, hb⟩ | ⟨T, ty, fo, ro, h1, h2, hsub⟩
  · cases (show u = Value.ref b from ry)
    obtain ⟨od', J'⟩ := inst_of I hb
    exact PySem.W.binop_K hF I.ok.mod.kin J J'.type hc hs hf hcall
  · obtain ⟨P, Z, p, _⟩ := kit_of I ry ty
    exact bin_left hF I.ok.mod.kin J (Z.ty _ _ I.kIn p) hc hs hf hrr hp h1 h2 hsub hcall
/-- x | o, o the instance; x of a built-in type whose own | declines -/
inductive OrT : String → Prop where
  | int : OrT "int" | bool : OrT "bool" | none : OrT "NoneType" | str : OrT "str" | list : OrT "list" | tuple : OrT "tuple" | dict : OrT "dict"
theorem or_find {T : String} (K : PySem.W.Frag) (h : OrT T) : ∃ fo ro, PySem.W.findIn K (.type T) (PySem.dunder (Operator.BitOr).info.2) = some fo ∧ PySem.W.findIn K (.type T) (dunderR (Operator.BitOr).info.2) = some ro ∧
    (((fo.isSome && !isSeqSlot fo) || (ro.isSome && !isSeqSlot ro)) = true → T = "int" ∨ T = "bool" ∨ T = "dict") := by
  cases h with
  | int => exact ⟨some (.builtin "int.__or__"), some (.builtin "int.__ror__"), by kernel_rfl, by kernel_rfl, fun _ => .inl rfl⟩
  | bool => exact ⟨some (.builtin "bool.__or__"), some (.builtin "bool.__ror__"), by kernel_rfl, by kernel_rfl, fun _ => .inr (.inl rfl)⟩
  | dict => exact ⟨some (.builtin "dict.__or__"), some (.builtin "dict.__ror__"), by kernel_rfl, by kernel_rfl, fun _ => .inr (.inr rfl)⟩
  | none => exact ⟨Option.none, Option.none, by kernel_rfl, by kernel_rfl, fun z => by cases z⟩
  | str => exact ⟨Option.none, Option.none, by kernel_rfl, by kernel_rfl, fun z => by cases z⟩
  | list => exact ⟨Option.none, Option.none, by kernel_rfl, by kernel_rfl, fun z => by cases z⟩
  | tuple => exact ⟨Option.none, Option.none, by kernel_rfl, by kernel_rfl, fun z => by cases z⟩
theorem sub_find {T : String} (K : PySem.W.Frag) (C : Addr) (h : OrT T) : PySem.W.subIn K (.type T) (.ref C) = some false := by
  cases h <;> kernel_rfl
theorem binT_or {T : String} (K : PySem.W.Frag) (C : Addr) (h : OrT T) : BinT K C .BitOr T := by
  obtain ⟨fo, ro, h1, h2, _⟩ := or_find K h
  exact ⟨fo, ro, h1, h2, sub_find K C h⟩
theorem binT_subList (K : PySem.W.Frag) (C : Addr) : BinT K C .Sub "list" := ⟨none, none, by kernel_rfl, by kernel_rfl, sub_find K C .list⟩
def rOwnR (K : PySem.W.Frag) (C : Addr) (sp : Sp) (E : XK) : R2 := fun x y H Q => ∃ b dy gs, y = .ref b ∧ H b = some (.ins C dy gs) ∧ (∃ T, OrT T ∧ TyX K H x (.type T)) ∧ sp [y, x] H Q E
theorem op_right (hc : PySem.W.selfFirst X.K C = true) (hs0 : PySem.W.findIn X.K (.ref C) (PySem.dunder (Operator.BitOr).info.2) = some (some (.ref g0))) (hs : PySem.W.findIn X.K (.ref C) (dunderR (Operator.BitOr).info.2) = some (some (.ref g)))
    (hf : PySem.W.isFn X.K (.ref g) = true) (hsub : ∀ T, OrT T → PySem.W.subIn X.K (.ref C) (.type T) = some false) (F : FnR X.prog X.w X.K X.mg X.base CX n g sp) (hr : Room n X.A) (hx : Passes CX X E) :
    OpR X (binaryOp .BitOr) (rOwnR X.K C sp E) := by
  intro pins s σ H x y v u Q I rx ry h
  obtain ⟨b, dy, gs, rfl, hb, ⟨T, hT, ty⟩, q⟩ := h
  cases (show u = Value.ref b from ry)
  obtain ⟨od, J⟩ := inst_of I hb
  obtain ⟨m, hF⟩ := I.fr
  have hcall : wpAny (model X.prog X.w) X.A (call (.ref g) [.ref b, v]) (PySem.W.CmpBack (EP X pins σ Q)) X.xe s := by
    refine wpAny_mono (run_atA (us := [.ref b, v]) (ws := [.ref b, x]) F hr I.env0 hx I (.cons rfl (.cons rx .nil)) q) (fun w s' z => ?_) fun _ _ x => x
    obtain ⟨z', H', I', rz, qz⟩ := z
    exact SlX.cmpback rz ⟨z', H', I', rz, qz⟩
  obtain ⟨P, Z, p, _⟩ := kit_of I rx ty
  obtain ⟨fo, ro, h1, h2, hd⟩ := or_find X.K hT
  refine bin_right (f0 := g0) hF I.ok.mod.kin J (Z.ty _ _ I.kIn p) hc hs0 hs hf h1 h2 (hsub T hT) (fun z Q' hq => ?_) hcall
  have hL := Z.ty (model X.prog X.w) _ I.kIn p
  rcases hd z with rfl | rfl | rfl
  · obtain ⟨i, rfl⟩ := ty_int ty rfl
    obtain ⟨t, rfl⟩ := (show ∃ t, v = Value.int i t from rx)
    exact int_or_declines J rfl hq
  · obtain ⟨i, rfl⟩ := ty_bool ty rfl
    cases (show v = Value.bool i from rx)
    exact bool_or_declines J rfl hq
  · obtain ⟨a, rfl, hTy⟩ := ty_dict I rx ty rfl
    exact dict_or_declines I.kIn hTy J (hsub _ .dict) hq

/-- o == p, o != p by the own __eq__, both of the class at C -/
def rOwnEq (C : Addr) (neg : Bool) (sp : Sp) (E : XK) : R2 := fun x y H Q => ∃ a dx fs b dy gs, x = .ref a ∧ H a = some (.ins C dx fs) ∧ y = .ref b ∧ H b = some (.ins C dy gs) ∧ sp [x, y] H (fun z H' => ∃ c, z = .bl c ∧ Q (.bl (if neg = true then !c else c)) H') E
theorem op_ownEq (hs : PySem.W.findIn X.K (.ref C) "__eq__" = some (some (.ref g))) (hf : PySem.W.isFn X.K (.ref g) = true) (F : FnR X.prog X.w X.K X.mg X.base CX n g sp) (hr : Room n X.A) (hx : Passes CX X E) :
    OpR X (compareOp .Eq) (rOwnEq C false sp E) := by
  intro pins s σ H x y v u Q I rx ry h
  obtain ⟨a, dx, fs, b, dy, gs, rfl, ha, rfl, hb, q⟩ := h
  cases (show v = Value.ref a from rx)
  cases (show u = Value.ref b from ry)
  obtain ⟨od, J⟩ := inst_of I ha
  obtain ⟨od', J'⟩ := inst_of I hb
  obtain ⟨m, hF⟩ := I.fr
  show wpAny _ _ (richCompare .Eq _ _) _ _ _
  refine PySem.W.cmp_K (op := .Eq) (tb := .ref C) hr.units0 hF I.ok.mod.kin J J'.type (by simp [PySem.W.notFirst]) hs hf ?_
  refine wpAny_mono (run_atA (us := [.ref a, .ref b]) (ws := [.ref a, .ref b]) F hr I.env0 hx I (.cons rfl (.cons rfl .nil)) q) (fun w s' z => ?_) fun _ _ x => x
  obtain ⟨z', H', I', rz, c, rfl, qz⟩ := z
  exact SlX.cmpback rz ⟨.bl c, H', I', rz, qz⟩
theorem op_ownNe (hs : PySem.W.findIn X.K (.ref C) "__eq__" = some (some (.ref g))) (hf : PySem.W.isFn X.K (.ref g) = true) (hn : PySem.W.findIn X.K (.ref C) "__ne__" = some (some (.builtin "object.__ne__"))) (hm : PySem.W.mroIn X.K C (.type "object") = some true)
    (F : FnR X.prog X.w X.K X.mg X.base CX n g sp) (hr : Room (n + 1) X.A) (hx : Passes CX X E) :
    OpR X (compareOp .NotEq) (rOwnEq C true sp E) := by
  intro pins s σ H x y v u Q I rx ry h
  obtain ⟨a, dx, fs, b, dy, gs, rfl, ha, rfl, hb, q⟩ := h
  cases (show v = Value.ref a from rx)
  cases (show u = Value.ref b from ry)
  obtain ⟨od, J⟩ := inst_of I ha
  obtain ⟨od', J'⟩ := inst_of I hb
  show wpAny _ _ (richCompare .NotEq _ _) _ _ _
  refine ne_own (hu_of hr) I.kIn J J'.type hn hm hs hf ?_
  refine wpAny_mono (run_atA (us := [.ref a, .ref b]) (ws := [.ref a, .ref b]) F (Room.in1 hr) I.env0.in1 hx I (.cons rfl (.cons rfl .nil)) q) (fun w s' z => ?_) fun _ _ x => x
  obtain ⟨z', H', I', rz, c, rfl, qz⟩ := z
  cases (show w = Value.bool c from rz)
  exact ⟨c, rfl, .bl (!c), H', I', rfl, qz⟩
/-- len(o) by the own __len__ -/
def rOwnLen (C : Addr) (sp : Sp) (E : XK) : List V → Hp → VK → Prop := fun xs H Q => ∃ a dx fs, xs = [V.ref a] ∧ H a = some (.ins C dx fs) ∧ sp [V.ref a] H (fun z H' => ∃ i : Int, z = .int i ∧ 0 ≤ i ∧ i < 2 ^ 63 ∧ Q (.int i) H') E
theorem call_ownLen (hs : PySem.W.findIn X.K (.ref C) "__len__" = some (some (.ref g))) (hf : PySem.W.isFn X.K (.ref g) = true) (F : FnR X.prog X.w X.K X.mg X.base CX n g sp) (hr : Room (n + 1) X.A) (hx : Passes CX X E) :
    CallR X (.builtin "len") (rOwnLen C sp E) := by
  intro pins s σ H xs us Q I r h
  obtain ⟨a, dx, fs, rfl, ha, q⟩ := h
  obtain ⟨u, rfl, ru⟩ := vals1 r
  cases (show u = Value.ref a from ru)
  obtain ⟨od, J⟩ := inst_of I ha
  obtain ⟨m, hF⟩ := I.fr
  refine PySem.W.len_K hF I.ok.mod.kin J hs hf ?_
  refine wpAny_mono (run_atA (us := [.ref a]) (ws := [.ref a]) F (Room.in1 hr) I.env0.in1 hx I (.cons rfl .nil) q) (fun w s' z => ?_) fun _ _ x => x
  obtain ⟨z', H', I', rz, i, rfl, h0, h1, qz⟩ := z
  obtain ⟨t, rfl⟩ := (show ∃ t, w = Value.int i t from rz)
  exact ⟨⟨h0, h1⟩, .int i, H', I'.tok _, ⟨_, rfl⟩, qz⟩
end
end K31
set_option Elab.async false
set_option linter.all false
set_option maxRecDepth 100000
set_option maxHeartbeats 4000000
/-! Dict displays with two stars, == of two dicts with both answers, xs[i] op= e. -/
namespace K31
open PySem PySem.Spec PyProof.Rows
section
variable {prog : Program} {w : World} {K : Type} [DecidableEq K] {knd : KeyKind prog w K} {A : Around} {E : Value → Shared → Prop} {s : Shared}

theorem dictPut_pairs {d : Addr} {kvs : List (K × Value)} {k : K} {key v : Value} {Q : Unit → Shared → Prop} (hkey : knd.is k key = true) (hm : s.heap.DictOf knd d kvs)
    (hQ : ∀ h', h'.DictOf knd d (stored kvs k v) → Heap.SameBut d s.heap h' → Q () { s with heap := h' })
    (hsz : kvs.length ≤ sizeLine := by size_fits) :
    wpAny (model prog w) A (dictPut d (knd.hash k) key v) Q E s := by
  obtain ⟨o, es, ep, ho, hc, hd, hk, hp, hn⟩ := hm
  have hes : es.size ≤ sizeLine := by have e1 := hp.length; have e2 : es.toList.length = es.size := by simp
                                      omega
  unfold dictPut
  refine wpAny_bind (wpAny_dictFind_of hkey ho hd hk ?_)
  have hidx : (es.findIdx? fun e => knd.is k e.key) = kvs.findIdx? fun kv => decide (kv.1 = k) := by
    rw [← hp.findIdx k]; obtain ⟨l⟩ := es; simp
  cases hi : es.findIdx? fun e => knd.is k e.key with
  | some i =>
    refine wpAny_updateDict ho hd (hQ _ ⟨_, _, ep, Heap.get?_update_self _ ho (Obj.isFreed_of_dict (Obj.data_mapDict hd _)),
      hc.mapDict _, Obj.data_mapDict hd _, hk.modify _ _, ?_, ?_⟩ (Heap.SameBut.update ..))
    · rw [stored, if_pos (any_of_findIdx_some (hidx ▸ hi))]
      have hl : (es.toList.findIdx? fun e => knd.is k e.key) = some i := by rw [← hi]; obtain ⟨l⟩ := es; simp
      have := hp.modify hn hl v
      obtain ⟨l⟩ := es
      simpa using this
    · rw [stored, if_pos (any_of_findIdx_some (hidx ▸ hi)), keys_map_store]; exact hn
  | none =>
    have hnot : k ∉ kvs.map (·.1) := not_mem_of_findIdx_none (hidx ▸ hi)
    have hany : ¬ (kvs.any fun kv => decide (kv.1 = k)) = true := by
      rw [List.any_eq_true]; rintro ⟨kv, hkv, he⟩
      exact hnot (List.mem_map.mpr ⟨kv, hkv, of_decide_eq_true he⟩)
    refine wpAny_updateDictKeys (hz := hes) ho hd (hQ _ ⟨_, _, ep + 1, Heap.get?_update_self _ ho (Obj.isFreed_of_dict (Obj.data_mapDictKeys hd _)),
      hc.mapDictKeys _, Obj.data_mapDictKeys hd _, hk.push hkey _, ?_, ?_⟩ (Heap.SameBut.update ..))
    · rw [stored, if_neg hany]
      have := hp.append hkey (knd.hash k) v
      obtain ⟨l⟩ := es
      simpa using this
    · rw [stored, if_neg hany, List.map_append, List.nodup_append]
      refine ⟨hn, by simp, ?_⟩
      intro a ha b hb
      simp only [List.map_cons, List.map_nil, List.mem_singleton] at hb
      subst hb
      exact fun e => hnot (e ▸ ha)

theorem mergeMapping_pairs {d o : Addr} {kvs more : List (K × Value)} {Q : Unit → Shared → Prop} (hdo : d ≠ o) (hoS : (o == sysModules) = false)
    (hd : s.heap.DictOf knd d kvs) (ho : s.heap.DictOf knd o more)
    (hQ : ∀ h', h'.DictOf knd d (merged kvs more) → Heap.SameBut d s.heap h' → Q () { s with heap := h' })
    (hsz : kvs.length + more.length ≤ sizeLine := by size_fits) :
    wpAny (model prog w) A (mergeMapping d (.ref o) false) Q E s := by
  obtain ⟨od, esd, epd, hod, hcd, hdd, hkd, hpd, hnd⟩ := id hd
  obtain ⟨oo, eso, epo, hoo, hco, hdo', hko, hpo, hno⟩ := id ho
  have hlen : more.length = eso.size := by rw [← hpo.length]; simp
  have loop : wpAny (model prog w) A (do
      let l ← dictEntries o
      let epoch ← dictEpoch o
      forIn (List.range l.size) PUnit.unit fun i (_ : PUnit) => (do
          let l' ← dictEntries o
          match l'[i]? with
            | some e => do
              holding [e.key, e.val] (dictPut d e.hash e.key e.val)
              let ep' ← dictEpoch o
              if (ep' != epoch) = true then do
                  (unsupported "dict.changed-during-merge" : Sem PUnit)
                  pure (ForInStep.yield PUnit.unit)
                else pure (ForInStep.yield PUnit.unit)
            | _ => do
              (unsupported "dict.changed-during-merge" : Sem PUnit)
              pure (ForInStep.yield PUnit.unit) : Sem (ForInStep PUnit))
      pure ()) Q E s := by
    refine wpAny_bind (wpAny_dictEntries hoo hdo' ?_)
    refine wpAny_bind (wpAny_dictEpoch hoo hdo' ?_)
    refine wpAny_bind ?_
    rw [List.range_eq_range']
    refine wpAny_forIn_list _
      (fun rest _ s' => ∃ h' i, s' = { s with heap := h' } ∧ rest = List.range' i (eso.size - i) ∧ i ≤ eso.size ∧ h'.DictOf knd d (merged kvs (more.take i)) ∧ h'.get? o = some oo ∧ Heap.SameBut d s.heap h')
      _ ?_ ?_ _ _ ⟨s.heap, 0, rfl, by simp, Nat.zero_le _, by simpa [merged] using hd, hoo, Heap.SameBut.refl _ _⟩
    · rintro x rest b s' ⟨h', i, rfl, hr, hi, hd', hoo', hs'⟩
      have hlt : i < eso.size := by
        rcases Nat.lt_or_ge i eso.size with h | h
        · exact h
        · rw [Nat.sub_eq_zero_of_le h] at hr; simp at hr
      obtain ⟨rfl, hrest⟩ : x = i ∧ rest = List.range' (i + 1) (eso.size - (i + 1)) := by
        have e : eso.size - i = (eso.size - (i + 1)) + 1 := by omega
        rw [e, List.range'_succ] at hr
        injection hr with h1 h2
        exact ⟨h1, h2⟩
      refine wpAny_bind (wpAny_dictEntries hoo' hdo' ?_)
      rw [Array.getElem?_eq_getElem hlt]
      obtain ⟨kv, hkv⟩ : ∃ kv, more[x]? = some kv := ⟨more[x]'(by rw [hlen]; exact hlt), List.getElem?_eq_getElem _⟩
      obtain ⟨k, v⟩ := kv
      obtain ⟨hkey, hval⟩ := hpo.get? (e := eso[x]) (by simp [hlt]) hkv
      obtain ⟨k', hkey', hhash⟩ := hko eso[x] (Array.getElem_mem hlt)
      obtain rfl : k' = k := knd.inj _ _ _ hkey' hkey
      show wpAny _ _ (holding [eso[x].key, eso[x].val] (dictPut d eso[x].hash eso[x].key eso[x].val) >>= _) _ _ _
      rw [hhash, hval]
      have hmx : (merged kvs (more.take x)).length ≤ sizeLine := by
        have e1 := merged_length kvs (more.take x)
        have e2 : (more.take x).length ≤ more.length := by rw [List.length_take]; omega
        omega
      refine wpAny_bind (wpAny_holding (dictPut_pairs (s := { s with heap := h' }) (hsz := hmx) hkey hd' fun h'' hd'' hs'' => ?_))
      have hoo'' : h''.get? o = some oo := (hs''.2 o (Ne.symm hdo)).trans hoo'
      refine wpAny_bind (wpAny_dictEpoch hoo'' hdo' ?_)
      rw [if_neg (by simp)]
      exact wpAny_pure ⟨h'', x + 1, rfl, hrest, hlt, by rw [merged_take_succ kvs more x (k', v) hkv]; exact hd'', hoo'', hs'.trans hs''⟩
    · rintro b s' ⟨h', i, rfl, hr, hi, hd', hoo', hs'⟩
      have hin : i = eso.size := by
        rcases Nat.lt_or_ge i eso.size with h | h
        · have e : eso.size - i = (eso.size - (i + 1)) + 1 := by omega
          rw [e, List.range'_succ] at hr; exact nomatch hr
        · exact Nat.le_antisymm hi h
      refine wpAny_pure (hQ h' ?_ hs')
      rw [hin, ← hlen, List.take_length] at hd'; exact hd'
  have hloop : (forIn eso PUnit.unit fun e (_ : PUnit) => (match e.key with
      | .ref a => do
        let q ← specialOf e.key (Str.ofString "__eq__")
        if (q != some (Value.builtin "object.__eq__")) = true then
          if (Array.filter (fun x => x.hash == e.hash) eso).size > 1 then do
            (unsupported "dict.merge-into-an-empty-dict:keys-of-equal-hash" : Sem PUnit)
            pure (ForInStep.yield PUnit.unit)
          else pure (ForInStep.yield PUnit.unit)
        else pure (ForInStep.yield PUnit.unit)
      | x => pure (ForInStep.yield PUnit.unit) : Sem (ForInStep PUnit))) = pure PUnit.unit := by
    rw [← Array.forIn_toList]
    refine forIn_yield_id _ fun e he c => ?_
    obtain ⟨k, hkey, _⟩ := hko e (Array.mem_toList_iff.mp he)
    have hv := knd.byValue k _ hkey
    cases hk : e.key with
    | ref a => rw [hk] at hv; cases hv
    | _ => rfl
  unfold mergeMapping
  refine wpAny_bind (wpAny_isInstance (T := "dict") ho.typeIs PySem.F.sub_dict_dict ?_)
  rw [if_pos rfl]
  refine wpAny_bind (wpAny_specialOf ho.typeIs F.slot_dict_iter.lookup ?_)
  refine wpAny_bind (wpAny_pure ?_)
  rw [show ((some (Value.builtin "dict.__iter__") == some (Value.builtin "dict.__iter__")) = true) from by decide]
  dsimp only
  rw [if_neg (by rw [hoS]; exact Bool.false_ne_true)]
  refine wpAny_bind (wpAny_dictEntries hod hdd ?_)
  by_cases hem : esd.isEmpty = true
  · rw [if_pos hem]
    refine wpAny_bind (wpAny_dictEntries hoo hdo' ?_)
    exact wpAny_bind (wpAny_of_eq hloop loop)
  · rw [if_neg hem]
    exact loop
/-- {**a, **b} -/
theorem display2 {t1 t2 : Sem Value} {Q : Value → Shared → Prop} 
    (h : wpAny (model prog w) A t1 (fun v s1 => ∃ o ks, v = .ref o ∧ s.heap.objs.size ≠ o ∧ (o == sysModules) = false ∧ s1.heap.DictOf knd s.heap.objs.size [] ∧ s1.heap.DictOf knd o ks ∧ ks.length ≤ 1000 ∧
      ∀ h', h'.DictOf knd s.heap.objs.size (merged [] ks) → Heap.SameBut s.heap.objs.size s1.heap h' →
        wpAny (model prog w) A t2 (fun u s2 => ∃ o2 ms ls, u = .ref o2 ∧ s.heap.objs.size ≠ o2 ∧ (o2 == sysModules) = false ∧ s2.heap.DictOf knd s.heap.objs.size ms ∧ s2.heap.DictOf knd o2 ls ∧ ms.length + ls.length ≤ 10000 ∧
          ∀ h2, h2.DictOf knd s.heap.objs.size (merged ms ls) → Heap.SameBut s.heap.objs.size s2.heap h2 → Q (.ref s.heap.objs.size) { s2 with heap := h2 }) E { s1 with heap := h' }) E { s with heap := s.heap.push { cls := .type "dict", data := .dict #[] } }) :
    wpAny (model prog w) A (dictDisplay [(none, t1), (none, t2)]) Q E s := by
  unfold dictDisplay
  dsimp only
  simp only [List.forIn_cons, List.forIn_nil, List.isEmpty_nil, if_true, pure_bind, bind_assoc]
  refine wpAny_bind (wpAny_alloc ?_)
  refine wpAny_bind (wpAny_holding (wpAny_mono h (fun v s1 hv => ?_) fun _ _ e => e))
  obtain ⟨o, ks, rfl, no, so, d0, dk, hz, h⟩ := hv
  have z1 : ([] : List (K × Value)).length + ks.length ≤ sizeLine := by rw [sizeLine_eq, List.length_nil]; omega
  refine wpAny_bind (wpAny_onRaise (wpAny_tryCatch (wpAny_onRaise (wpAny_holding (mergeMapping_pairs (hsz := z1) no so d0 dk fun h' hd' hs' => ?_)))))
  refine wpAny_bind (wpAny_holding (wpAny_mono (h h' hd' hs') (fun u s2 hu => ?_) fun _ _ e => e))
  obtain ⟨o2, ms, ls, rfl, no2, so2, d2, dl, hz2, h⟩ := hu
  have z2 : ms.length + ls.length ≤ sizeLine := by rw [sizeLine_eq]; omega
  refine wpAny_bind (wpAny_onRaise (wpAny_tryCatch (wpAny_onRaise (wpAny_holding (mergeMapping_pairs (hsz := z2) no2 so2 d2 dl fun h2 hd2 hs2 => ?_)))))
  exact wpAny_pure (h h2 hd2 hs2)
end
/-! ### over the layer -/
open L2
/-- {**a, **b} -/
def tDict2 (ta tb : TE) : TE := fun σ H Q => ∀ p, H p = none → ta σ (upd H p (.dK [])) fun x H1 => ∃ a ks, x = .ref a ∧ a ≠ p ∧ H1 a = some (.dK ks) ∧ H1 p = some (.dK []) ∧ ks.length ≤ 1000 ∧
  tb σ (upd H1 p (.dK (mergeK [] ks))) fun y H2 => ∃ b ls, y = .ref b ∧ b ≠ p ∧ H2 b = some (.dK ls) ∧ H2 p = some (.dK (mergeK [] ks)) ∧ ls.length ≤ 1000 ∧ Q (.ref p) (upd H2 p (.dK (mergeK (mergeK [] ks) ls)))
theorem pe_dict2 {X : Cx} {pos : Pos} {e1 e2 : Expr} {ta tb : TE} (ha : PE X e1 ta) (hb : PE X e2 tb) : PE X (.Dict [none, none] [e1, e2] pos) (tDict2 ta tb) := by
  refine ⟨fun pins s σ H Q I q => ?_⟩
  have hn := I.hok.fresh (Nat.le_refl s.heap.objs.size)
  have I1 := I.laid (a := s.heap.objs.size) (o := .dK []) (h' := s.heap.push { cls := .type "dict", data := .dict #[] }) (t' := s.toks) (fun _ _ q => Heap.get?_push_of_some _ q) (Nat.le_refl _) (dk_empty s.heap I.big)
  rw [arm_eval_Dict]
  refine wpAny_bind (wpAny_standAt ?_)
  show wpAny _ _ (dictDisplay [(none, do let x ← eval e1 X.env; standAt pos; pure x), (none, do let x ← eval e2 X.env; standAt pos; pure x)]) _ _ _
  refine display2 (knd := mixKind X.prog X.w) (wpAny_bind (thn (ha.run pins _ σ _ _ I1 (q _ hn)) fun v s2 hv => wpAny_bind (wpAny_standAt (wpAny_pure ?_))))
  obtain ⟨x, H1, I2, r, a, ks, ex, np, ea, ep, lk, q2⟩ := hv
  subst ex
  cases (show v = Value.ref a from r)
  obtain ⟨z, hd, vs0, r0, dd⟩ := dk_of I2.hok ep
  cases r0
  obtain ⟨za, hda, vsa, ra, dda⟩ := dk_of I2.hok ea
  have la : vsa.length ≤ 1000 := by rw [← ra.length]; exact lk
  refine ⟨a, vsa, rfl, Ne.symm np, hda, dd, dda, la, fun h' dd' hs => ?_⟩
  have hz : (mergeK [] ks).length ≤ sizeLine := by
    have h1 := length_mergeK ks []
    rw [List.length_nil] at h1
    rw [sizeLine_eq]; omega
  have he : ∃ q, h'.get? s.heap.objs.size = some q := let ⟨q, _, _, hq, _⟩ := dd'; ⟨q, hq⟩
  have I3 := d_write (t' := s2.toks) I2 (by rw [ep]; exact True.intro) hs he (dk_new hz hd (ra.merge .nil) dd')
  refine wpAny_bind (thn (hb.run pins _ σ _ _ I3 q2) fun u s3 hu => wpAny_bind (wpAny_standAt (wpAny_pure ?_)))
  obtain ⟨y, H2, I4, ry, b, ls, ey, np2, eb, ep2, lk2, q3⟩ := hu
  subst ey
  cases (show u = Value.ref b from ry)
  obtain ⟨z2, hd2, vs2, r2, dd2⟩ := dk_of I4.hok ep2
  obtain ⟨zb, hdb, vsb, rb, ddb⟩ := dk_of I4.hok eb
  have lb : vsb.length ≤ 1000 := by rw [← rb.length]; exact lk2
  have lm : (mergeK [] ks).length ≤ 1000 := by
    have h1 := length_mergeK ks []
    rw [List.length_nil] at h1
    omega
  have l2 : vs2.length ≤ 1000 := by rw [← r2.length]; exact lm
  refine ⟨b, vs2, vsb, rfl, Ne.symm np2, hdb, dd2, ddb, by omega, fun h2 dd3 hs3 => ?_⟩
  have hz2 : (mergeK (mergeK [] ks) ls).length ≤ sizeLine := by
    have h1 := length_mergeK ls (mergeK [] ks)
    rw [sizeLine_eq]; omega
  have he2 : ∃ q, h2.get? s.heap.objs.size = some q := let ⟨q, _, _, hq, _⟩ := dd3; ⟨q, hq⟩
  exact ⟨.ref s.heap.objs.size, _, d_write (t' := s3.toks) I4 (by rw [ep2]; exact True.intro) hs3 he2 (dk_new hz2 hd2 (rb.merge r2) dd3), rfl, q3⟩

/-! ### == of two dicts, both answers -/
def fl2 : V → Bool
  | .int _ => true
  | .str _ => true
  | _ => false
/-- the answer -/
def dEq (ks ls : List (Key × V)) : Bool := decide (ks.length = ls.length) && ks.all fun p => decide (valV ls p.1 = some p.2)
theorem eqAt_fl2 {A : Around} {s : Shared} {y x : V} {u v : Value} (ry : RelV y u) (rx : RelV x v) (fy : fl2 y = true) (fx : fl2 x = true) : SeqAt.EqAt A s u v (decide (y = x)) := by
  have hy : flatV y = true := by cases y <;> first | rfl | cases fy
  have hx : flatV x = true := by cases x <;> first | rfl | cases fx
  have e := eqAt_V (A := A) (s := s) ry rx hy hx
  have q : eqV y x = decide (y = x) := by
    cases y <;> first
      | exact absurd (show false = true from fy) Bool.false_ne_true
      | (cases x <;> first
        | exact absurd (show false = true from fx) Bool.false_ne_true
        | (rename_i a b; show (a == b) = _; by_cases h : a = b <;> simp [h])
        | (symm; show decide _ = false; exact decide_eq_false (fun z => by cases z)))
  rw [q] at e
  exact e
section
variable {κ : Type} [DecidableEq κ]
theorem hits_dec {A : Around} {s : Shared} {kvs : List (κ × V)} {vb : List (κ × Value)} (rb : KV kvs vb) (fb : ∀ p ∈ kvs, fl2 p.2 = true) {ks : List (κ × V)} {va : List (κ × Value)} (ra : KV ks va) :
    (∀ p ∈ ks, fl2 p.2 = true) → PySem.W.KeqHits A s vb va (ks.all fun p => decide (valV kvs p.1 = some p.2)) := by
  unfold KV at ra
  induction ra with
  | nil => intro _; exact .nil
  | @cons p q ps qs h t ih =>
    intro hp
    obtain ⟨h1, h2⟩ := h
    obtain ⟨k, v⟩ := q
    have h1' : p.1 = k := h1
    have rr : RelO (valV kvs p.1) (valueAt vb p.1) := rb.val p.1
    have ihh := ih fun p' hm => hp p' (List.mem_cons_of_mem _ hm)
    rw [List.all_cons]
    cases hv : valV kvs p.1 with
    | none =>
      rw [hv] at rr
      have hn : valueAt vb p.1 = none := by
        cases hq : valueAt vb p.1 with
        | none => rfl
        | some z => rw [hq] at rr; exact rr.elim
      rw [h1'] at hn
      rw [show (decide ((none : Option V) = some p.2) && ps.all fun p => decide (valV kvs p.1 = some p.2)) = false from by simp]
      exact .miss hn
    | some y0 =>
      rw [hv] at rr
      obtain ⟨y, hy, ry⟩ := rr.some_of
      rw [h1'] at hy
      have fy : fl2 y0 = true := by
        unfold valV at hv
        obtain ⟨kv, hf, e⟩ := Option.map_eq_some_iff.mp hv
        rw [← e]
        exact fb kv (List.mem_of_find?_eq_some hf)
      have ea := eqAt_fl2 (A := A) (s := s) h2 ry (hp p List.mem_cons_self) fy
      rw [show decide (some y0 = some p.2) = decide (p.2 = y0) from by simp [eq_comm]]
      exact .hit hy ea ihh
end
def rDEq (neg : Bool) : R2 := fun x y H Q => ∃ a b ks ls, x = .ref a ∧ y = .ref b ∧ H a = some (.dK ks) ∧ H b = some (.dK ls) ∧ (∀ p ∈ ks, fl2 p.2 = true) ∧ (∀ p ∈ ls, fl2 p.2 = true) ∧ Q (.bl (if neg = true then !dEq ks ls else dEq ks ls)) H
section
variable {X : Cx}
theorem op_dEq (hu : X.A.units < cLine) : OpR X (compareOp .Eq) (rDEq false) := by
  intro pins s σ H x y v u Q I rx ry h
  obtain ⟨a, b, ks, ls, rfl, rfl, ea, eb, fa, fb, q⟩ := h
  obtain rfl : v = Value.ref a := rx
  obtain rfl : u = Value.ref b := ry
  obtain ⟨_, ya, va, ra, da⟩ := (show ObjOk X.prog X.w H s.heap a (.dK ks) from I.hok a _ ea)
  obtain ⟨_, yb, vb, rb, db⟩ := (show ObjOk X.prog X.w H s.heap b (.dK ls) from I.hok b _ eb)
  refine PySem.W.keq_eq (knd := mixKind X.prog X.w) ya yb da db hu (fun _ => hits_dec rb fb ra fa) (fin_bl I q ?_)
  have e1 : (va.length == vb.length) = decide (ks.length = ls.length) := by
    rw [← ra.length, ← rb.length]
    by_cases h : ks.length = ls.length <;> simp [h]
  rw [e1]
  rfl
theorem op_dNe (hu : X.A.units < cLine) : OpR X (compareOp .NotEq) (rDEq true) := by
  intro pins s σ H x y v u Q I rx ry h
  obtain ⟨a, b, ks, ls, rfl, rfl, ea, eb, fa, fb, q⟩ := h
  obtain rfl : v = Value.ref a := rx
  obtain rfl : u = Value.ref b := ry
  obtain ⟨_, ya, va, ra, da⟩ := (show ObjOk X.prog X.w H s.heap a (.dK ks) from I.hok a _ ea)
  obtain ⟨_, yb, vb, rb, db⟩ := (show ObjOk X.prog X.w H s.heap b (.dK ls) from I.hok b _ eb)
  refine PySem.W.keq_ne (knd := mixKind X.prog X.w) ya yb da db hu (fun _ => hits_dec rb fb ra fa) (fin_bl I q ?_)
  have e1 : (va.length == vb.length) = decide (ks.length = ls.length) := by
    rw [← ra.length, ← rb.length]
    by_cases h : ks.length = ls.length <;> simp [h]
  rw [e1]
  rfl
end
/-! ### xs[i] as the read of xs[i] op= e -/
theorem pget_list {X : Cx} : PGet X (fun o i H Q => ∃ (p : Addr) (xs : List V) (i0 : Int) (v : V), o = .ref p ∧ i = .int i0 ∧ 0 ≤ i0 ∧ i0 < 2 ^ 63 ∧ H p = some (.lst xs) ∧ xs[i0.toNat]? = some v ∧ Q v H) := by
  intro pins s σ H o i ov iv Q I ro ri h
  obtain ⟨p, xs, i0, v, rfl, rfl, h0, h1, hp, hv, q⟩ := h
  cases (show ov = Value.ref p from ro)
  obtain ⟨t, rfl⟩ := (show ∃ t, iv = Value.int i0 t from ri)
  obtain ⟨its, r, pl, hz⟩ := I.list (SqL.of (K := X.K) hp)
  obtain ⟨w, ew, rw'⟩ := r.get hv
  exact wpAny_getItem_list pl.isList h0 h1 (by simpa using ew) ⟨v, H, I, rw', q⟩
end K31
set_option Elab.async false
set_option linter.all false
set_option maxRecDepth 100000
set_option maxHeartbeats 4000000
/-! NotBindings(value): an own error over ValueError whose __init__ says super().__init__(text) and stores a field. -/
namespace PySem
namespace NotX
open PySem.W PySem.Calls PyProof.Rows PySem.HandSPX
def iA : Arguments := { posonlyargs := [], args := [{ arg := "self", annotation := none, pos := ⟨11, 17, 11, 21⟩ }, { arg := "value", annotation := none, pos := ⟨11, 23, 11, 28⟩ }], vararg := none, kwonlyargs := [], kw_defaults := [], kwarg := none, defaults := [] }
def iB1 : Stmt := .Expr (.Call (.Attribute (.Call (.Name "super" ⟨12, 8, 12, 13⟩) [] [] ⟨12, 8, 12, 15⟩) "__init__" ⟨12, 8, 12, 24⟩) [.Constant (.str "bindings are a dict or an environment") 0 ⟨12, 25, 12, 64⟩] [] ⟨12, 8, 12, 65⟩) ⟨12, 8, 12, 65⟩
def iB2 : Stmt := .Assign [.Attribute (.Name "self" ⟨13, 8, 13, 12⟩) "value" ⟨13, 8, 13, 18⟩] (.Name "value" ⟨13, 21, 13, 26⟩) ⟨13, 8, 13, 26⟩
def iB : List Stmt := [iB1, iB2]
def iS : Scope := { kind := .function, names := [(PySem.Str.ofString "self", .local), (PySem.Str.ofString "value", .local), (PySem.Str.ofString "__class__", .free), (PySem.Str.ofString "super", .globalImplicit)], isGenerator := false, isCoroutine := false, more := [] }
/-- what the written part says of NotBindings, at C, and of its __init__, at fI, its cell at cc, its code at cda -/
structure NotTxt (K : Frag) (mg : Str → Option Value) (file : Str) (C fI cc cda : Addr) : Prop where
  gC : mg "NotBindings" = some (.ref C)
  cls : ∃ nm q N bs bm sn sub ab col dd k0 k1 k2 k3 k5, K.lookup C = some (excClassObj nm q C N bs bm true sn sub ab col dd k0 k1 k2 k3 k5 "ValueError.__new__") ∧ refsVE bm = true
  sa : findIn K (.ref C) "__setattr__" = some (some (.builtin "object.__setattr__"))
  ga : findIn K (.ref C) "__getattribute__" = some (some (.builtin "BaseException.__getattribute__"))
  gg : findIn K (.ref C) "__getattr__" = some none
  noN : findIn K (.ref C) "value" = some none
  iC : findIn K (.ref C) "__init__" = some (some (.ref fI))
  tC : typeIn K (.ref fI) = some (.type "function")
  kC : keepIn K (.ref C) = true
  exC : subIn K (.ref C) (.type "BaseException") = some true
  tyC : typeIn K (.ref C) = some (.type "type")
  hdC : hasDictIn K C = true
  te : exmOne K (.ref C) (.ref C) = some true
  sup : ks_superIn K C C "__init__" = some (some (.builtin "ValueError.__init__"))
  sVE : subIn K (.ref C) (.type "ValueError") = some true
  sSelf : mroIn K C (.ref C) = some true
  opq : nsIn K cStatics "thirdparty.any" = some none
  nsup : mg "super" = none
  cell : ∃ cl cld csl, K.lookup cc = some ⟨cl, cld, .cell (some (.ref C)), csl⟩
  code : ∃ ccl cdd vs ccs tf, K.lookup cda = some ⟨ccl, cdd, .fields vs, ccs⟩ ∧ vs[2]? = some (.str file tf)
  fn : ∃ (oc : Value) (od : Option Addr) (doc pm : Value) (an : Option Addr) (ct : Value) (osl : Array (Option Value)),
    K.lookup fI = some ⟨oc, od, .func (ksFn "__init__" "NotBindings.__init__" iA iB iS .none .none doc pm an (.ref cda) ct cc), osl⟩ ∧ codeIn K (.ref cda) "NotBindings.__init__" = true
theorem one_size (v : Value) : [v].length ≤ sizeLine := by
  rw [sizeLine_eq]
  exact (by decide : 1 ≤ 16777216)
theorem kept_but {K : Frag} {h h' : Heap} {x : Addr} (X : K.In h) (hx : K.lookup x = none) (k : ∀ b o, b ≠ x → h.get? b = some o → h'.get? b = some o) : K.In h' := fun a o e =>
  k a o (fun z => by rw [z, hx] at e; cases e) (X a o e)
theorem ldC {M : Model} {A : Around} {E : Value → Shared → Prop} {s : Shared} {env : Env} {m : Str → Option Value} {x : Str} {pos : Pos} {v : Value} {Q : Value → Shared → Prop} (hn : s.heap.Ns env.locals m) (hv : m x = some v) (h : Q v s)
    (hk : env.scope.kind = .function := by rfl) (hl : env.kindOf x = some .local := by rfl) (hd : (x == ("__debug__" : Str)) = false := by decide) :
    wpAny M A (eval (.Name x pos) env) Q E s := wpAny_Name (wpAny_loadName_local hk hl hn hv h) hd
/-- what __init__ leaves of a fresh exception at x -/
structure InitEnd (h h' : Heap) (x C dx t1 : Addr) (v : Value) : Prop where
  keep : ∀ b o, b ≠ x → h.get? b = some o → h'.get? b = some o
  obj : h'.get? x = some { cls := .ref C, dict := some dx, data := .fields #[.ref t1, .none, .none, .none, .bool false, .none] }
  dbig : h.objs.size ≤ dx
  dne : dx ≠ x
  ns : h'.Ns1 dx (fun y => if y = "value" then some v else none)
/-- a made error -/
structure OwnMade (h h' : Heap) (e C d : Addr) (v : Value) : Prop where
  keep : ∀ b o, h.get? b = some o → h'.get? b = some o
  new : h.objs.size ≤ e
  obj : ∃ oe vs, h'.get? e = some oe ∧ oe.cls = .ref C ∧ oe.dict = some d ∧ oe.data = .fields vs ∧ vs[1]? = some .none
  dbig : h.objs.size ≤ d
  dne : d ≠ e
  ns : h'.Ns1 d (fun y => if y = "value" then some v else none)
section
variable {nm q : Str} {C N : Addr} {bs bm : List Value} {hdct : Bool} {sn : List Str} {sub : List Value} {ab : Bool} {col : Option Bool} {dd : Option Addr} {k0 k1 k2 k3 k5 : Option Value}
variable {prog : Program} {w : World} {M : Model} {A : Around} {E : Value → Shared → Prop} {h : Heap} {g : Array GenState} {d : Drawn} {t : Nat} {os : OsState}
theorem call_mw {u e t0 : Addr} {rest : List Value} {Q : Value → Shared → Prop}
    (hC : h.get? C = some (excClassObj nm q C N bs bm hdct sn sub ab col dd k0 k1 k2 k3 k5 "ValueError.__new__")) (he : h.get? e = some (excO C t0)) (hu : h.get? u = some (kxs_mw "ValueError.__init__" e)) (hrest : rest.length ≤ sizeLine)
    (hq : ∀ h' t1, h.objs.size ≤ h'.objs.size → (∀ b o, b ≠ e → h.get? b = some o → h'.get? b = some o) → h'.get? e = some (excO C t1) → Q .none ⟨h', g, d, t, os⟩) :
    wpAny (model prog w) A (call (.ref u) rest) Q E ⟨h, g, d, t, os⟩ := by
  refine wpAny_call (codeAny_of_tree ?_)
  show wpAny _ A.in1 (callAny (.ref u) ⟨rest, []⟩) _ _ _
  simp only [callAny]
  refine wpAny_bind (wpAny_load hu ?_)
  simp only [kxs_mw, show (Value.type "method-wrapper" == Value.type "method" || Value.type "method-wrapper" == Value.type "builtin_function_or_method" || Value.type "method-wrapper" == Value.type "method-wrapper") = true by decide, if_true]
  refine W.KFB.if_so (by decide) ?_
  refine wpAny_bind (check_bound_init F.excBase_ValueError.toExcCallFacts hC he rfl ?_)
  refine wpAny_bind (wpAny_pure (wpAny_pure ?_))
  refine ⟨Code.quiet_builtin _ (by decide +kernel), codeAny_builtin F.excBase_ValueError.initEntry ?_⟩
  rw [Around.under_plainId F.excBase_ValueError.init.plain _]
  wp_walk
  refine hq _ h.objs.size ?_ (fun b o hb ho => ?_) ?_
  · rw [Heap.size_update, Heap.size_push]; exact Nat.le_succ _
  · rw [Heap.get?_update_other _ _ (Ne.symm hb)]
    exact Heap.get?_push_of_some _ ho
  · rw [Heap.get?_update_self _ (Heap.get?_push_of_some _ he) rfl]
    rfl
end
section
variable {prog : Program} {w : World} {A : Around} {E : Value → Shared → Prop} {R : Result → Shared → Prop} {s : Shared} {K : Frag} {mg mb : Str → Option Value} {file : Str} {C fI cc cda : Addr}
theorem looks_opq {M : Model} {h : Heap} (X : K.In h) (ho : nsIn K cStatics "thirdparty.any" = some none) {C : Addr} : Looks M h (opaqueClassAbove (.ref C)) none := looks_opaque X ho
theorem not_init (T : NotTxt K mg file C fI cc cda) {x t0 : Addr} {v : Value} (X : K.In s.heap) (hlim : s.heap.NoLimit) (hg : s.heap.Ns mainGlobals mg) (hb : s.heap.Ns builtinsNs mb) (hbb : mb "super" = some (.type "super"))
    (hx : s.heap.get? x = some (excO C t0)) (hnx : K.lookup x = none) (hroom : A.depth < recursionLimit)
    (htop : (prog.main.scope.names.lookup ("super" : Str)).isSome = false) (hfile : ((prog.main.file : Str) == file) = true)
    (hq : ∀ h' tk dx t1, InitEnd s.heap h' x C dx t1 v → R (.ok (.ret .none)) { s with heap := h', toks := tk }) :
    codeAny (model prog w) A (.call (.ref fI) ⟨[.ref x, v], []⟩) R s := by
  obtain ⟨oc, od, doc, pm, an, ct, osl, ho, hcd⟩ := T.fn
  obtain ⟨nm, q, N, bs, bm, sn, sub, ab, col, dd, k0, k1, k2, k3, k5, hC, hbm⟩ := T.cls
  obtain ⟨cl, cld, csl, hcell⟩ := T.cell
  obtain ⟨ccl, cdd, vs, ccs, tf, hcode, hvs⟩ := T.code
  have hcl : clsIn K C = some { name := nm, bases := bs, mro := .ref C :: bm, ns := N, qualname := q, hasDict := true, slotNames := sn, subclasses := sub, abstract := ab, collection := col, hasDel := false } := by unfold clsIn; rw [hC] <;> rfl
  refine ks_codeAny_call_defAt (fd := ksFn "__init__" "NotBindings.__init__" iA iB iS .none .none doc pm an (.ref cda) ct cc) (body := iB) (binds := [("self", .ref x), ("value", v)]) hroom (X _ _ ho) rfl hlim (codeRec_of X hcd) rfl
    (BindsTo.of_eq (by first | rfl | with_unfolding_all rfl)) (show ∀ y ∈ iS.names, y.2 ≠ .cell from by decide) (by intro y hy; simp only [List.mem_cons, List.not_mem_nil, or_false] at hy; rcases hy with rfl | rfl <;> rfl) (fun h1 hns hk1 => ?_)
  have X1 : K.In h1 := X.keeps hk1
  have hx1 := hk1 _ _ hx
  have hg1 : h1.Ns mainGlobals mg := hg.keeps hk1
  have hb1 : h1.Ns builtinsNs mb := hb.keeps hk1
  have hxL : s.heap.objs.size ≠ x := Nat.ne_of_gt (Heap.lt_size hx)
  have I1 : InstAt h1 x (excO C t0) C none := ⟨hx1, rfl, rfl, trivial⟩
  obtain ⟨hp, g, dr, tk, os⟩ := s
  generalize tk + List.length [(("self" : Str), Value.ref x), ("value", v)] = tk1
  refine ks_wpAt_execs_cons (ks_wpAt_Expr_any (ks_wpAt_MethodCall ?_))
  refine ks_wpAt_super_base (f := fI) (cc := cda) (fd := ksFn "__init__" "NotBindings.__init__" iA iB iS .none .none doc pm an (.ref cda) ct cc) (ar := { arg := "self", annotation := none, pos := ⟨11, 17, 11, 21⟩ }) rfl rfl (by decide) rfl (X1 _ _ ho) rfl rfl rfl (X1 _ _ hcode) rfl hvs hfile htop ?_
  refine ks_loadName_global rfl rfl (loadGlobal_builtin (by exact hg1) T.nsup (by exact hb1) hbb ⟨rfl, ?_⟩)
  refine wpAny_loadName_free rfl rfl rfl ⟨_, X1 _ _ hcell, rfl⟩ ?_
  refine wpAny_loadName_local rfl rfl (by exact hns) (by rfl) ?_
  refine ks_wpAny_isType_cls (X1 _ _ hC) rfl ⟨rfl, ?_⟩
  refine ks_wpAny_call_super (X1 _ _ hC) rfl hx1 rfl (fun c e => by cases e) (looks_mroIn X1 T.sSelf) (fun h2 hso k2 => ?_)
  have X2 : K.In h2 := X1.keeps k2
  have hx2 := k2 _ _ hx1
  have I2 : InstAt h2 x (excO C t0) C none := ⟨hx2, rfl, rfl, trivial⟩
  have hI2 : Looks (model prog w) h2 (isInstance (.ref x) (.type "ValueError")) true := I2.type.andThen (looks_subIn X2 T.sVE)
  have hsup : alongIn K "__init__" (((Value.ref C :: bm).dropWhile (· != .ref C)).drop 1) = some (some (.builtin "ValueError.__init__")) := by
    have e := T.sup
    unfold ks_superIn at e
    rw [hcl] at e
    exact e
  refine kxs_getMethod kxs_ValueError hso (looks_opaque X2 T.opq) (l₀ := .ref C :: bm) (fun A Q E s k q => wpAny_bind ((looks_clsIn X2 hcl) A _ E s k (wpAny_pure q))) rfl X2 hsup hI2 (ks_ne X2 I2 hcl) (by decide) ?_
  have k3 : ∀ b o, h2.get? b = some o → (h2.push (kxs_mw "ValueError.__init__" x)).get? b = some o := fun b o e => Heap.get?_push_of_some _ e
  have hu : (h2.push (kxs_mw "ValueError.__init__" x)).get? h2.objs.size = some (kxs_mw "ValueError.__init__" x) := Heap.get?_push_at rfl rfl
  generalize h2.push (kxs_mw "ValueError.__init__" x) = h3 at k3 hu ⊢
  have X3 : K.In h3 := X2.keeps k3
  have hx3 := k3 _ _ hx2
  refine kxs_callWith (i := "ValueError.__init__") (x := x) rfl (evalArgs_plain ?_)
  show wpAny _ _ (spliced ((false, eval (.Constant (.str "bindings are a dict or an environment") 0 ⟨12, 25, 12, 64⟩) _) :: [])) _ _ _
  refine Calls.spliced_cons (Calls.Constant_str (Calls.spliced_nil ⟨hu, ?_⟩))
  refine call_mw (X3 _ _ hC) hx3 hu (one_size _) (fun h4 t1 sz k4 hx4 => ?_)
  have X4 : K.In h4 := kept_but X3 hnx k4
  have hn4 : h4.Ns hp.objs.size (fun y => List.lookup y [(("self" : Str), Value.ref x), (("value" : Str), v)].reverse) := by
    obtain ⟨o, es, ep, e, r⟩ := hns
    exact ⟨o, es, ep, k4 _ _ hxL (k3 _ _ (k2 _ _ e)), r⟩
  show wpAt _ _ _ (execs [iB2] _) _ _ _
  refine wpAt_of_wpAny ?_
  refine wpAny_execs_cons (plainObj_wpAny_Assign_Attribute ?_)
  refine ldC (v := v) hn4 (by first | rfl | with_unfolding_all rfl | kernel_rfl) (ldC (v := .ref x) hn4 (by first | rfl | with_unfolding_all rfl | kernel_rfl) ?_)
  refine set_plain X4 (ox := excO C t1) (od := none) ⟨hx4, rfl, rfl, trivial⟩ T.sa ?_
  refine exc_osa X4 hx4 hcl (show refsVE (.ref C :: bm) = true from hbm) rfl T.noN (fun h5 tk5 dx k5 dn dne hx5 hn5 => ?_)
  have z : hp.objs.size < h4.objs.size := hn4.lt
  exact wpAny_execs_nil (hq h5 tk5 dx t1 ⟨fun b o hb e => k5 b o hb (k4 b o hb (k3 _ _ (k2 _ _ (hk1 b o e)))), hx5, Nat.le_of_lt (Nat.lt_of_lt_of_le z dn), dne, hn5⟩)
theorem not_made (T : NotTxt K mg file C fI cc cda) {v : Value} (X : K.In s.heap) (hlim : s.heap.NoLimit) (hg : s.heap.Ns mainGlobals mg) (hb : s.heap.Ns builtinsNs mb) (hbb : mb "super" = some (.type "super")) (hroom : A.depth + 1 < recursionLimit)
    (htop : (prog.main.scope.names.lookup ("super" : Str)).isSome = false) (hfile : ((prog.main.file : Str) == file) = true)
    (hq : ∀ h' tk e d, OwnMade s.heap h' e C d v → R (.ok (.ret (.ref e))) { s with heap := h', toks := tk }) :
    codeAny (model prog w) A (.call (.ref C) ⟨[v], []⟩) R s := by
  obtain ⟨nm, q, N, bs, bm, sn, sub, ab, col, dd, k0, k1, k2, k3, k5, hC, hbm⟩ := T.cls
  obtain ⟨hp, g, dr, tk, os⟩ := s
  have k : ∀ b o, hp.get? b = some o → ((hp.push (kdv_tup [v])).push (excO C hp.objs.size)).get? b = some o := fun b o e => Heap.get?_push_of_some _ (Heap.get?_push_of_some _ e)
  have hget : ((hp.push (kdv_tup [v])).push (excO C hp.objs.size)).get? (hp.objs.size + 1) = some (excO C hp.objs.size) := by heap_get
  have hnx : K.lookup (hp.objs.size + 1) = none := by
    cases e : K.lookup (hp.objs.size + 1) with
    | none => rfl
    | some o =>
      have z : hp.get? (hp.objs.size + 1) = some o := X _ _ e
      exact absurd (Nat.lt_of_succ_lt (Heap.lt_size z)) (Nat.lt_irrefl _)
  refine call_own F.excBase_ValueError (fun X => refsVE_contains X bm hbm) (X _ _ hC) (looks_findIn X T.iC) (fun self => bind_fn X self T.tC) (one_size v) ?_
  refine not_init (s := ⟨(hp.push (kdv_tup [v])).push (excO C hp.objs.size), g, dr, tk, os⟩) T (X.keeps k) (hlim.keeps k) (hg.keeps k) (hb.keeps k) hbb hget hnx ?_ htop hfile fun h' tk' dx t1 ⟨k', hx, dn, dne, hns⟩ => ?_
  · show A.depth + 1 < recursionLimit
    exact hroom
  · have old : ∀ b o, hp.get? b = some o → h'.get? b = some o := fun b o e => k' b o (Nat.ne_of_lt (Nat.lt_succ_of_lt (Heap.lt_size e))) (k b o e)
    have z : hp.objs.size + 1 + 1 ≤ dx := by
      first
        | (simpa only [Heap.size_push] using dn)
        | exact dn
        | (have q := dn; rw [Heap.size_push, Heap.size_push] at q; exact q)
    exact ⟨rfl, hq h' tk' (hp.objs.size + 1) dx ⟨old, Nat.le_succ _, ⟨_, _, hx, rfl, rfl, rfl, rfl⟩, Nat.le_trans (Nat.le_trans (Nat.le_succ _) (Nat.le_succ _)) z, dne, hns⟩⟩
end
end NotX
end PySem
namespace K31
open PySem PySem.Spec PyProof.Rows L2
/-- value is the error's only field -/
abbrev vFld (v : V) : List (Str × V) := [(("value" : Str), v)]
theorem relO_val {v : V} {v' : Value} (r : RelV v v') (f : Str) : RelO (List.lookup f (vFld v)) (if f = "value" then some v' else none) := by
  by_cases hw : f = "value"
  · subst hw
    rw [if_pos rfl]
    have q : List.lookup ("value" : Str) (vFld v) = some v := by simp [List.lookup]
    rw [q]
    exact r
  · rw [if_neg hw]
    have qw : (f == ("value" : Str)) = false := by simpa using hw
    have q2 : List.lookup f (vFld v) = none := by simp [List.lookup, qw]
    rw [q2]
    trivial
section
variable {X : Cx} {C fI cc cda : Addr} {file : Str}
/-- NotBindings(e) -/
def tMkNot (C : Addr) (ta : TA) : L2.St → Hp → XK → Prop := fun σ H Q => ta σ H fun vs H1 => ∃ v, vs = [v] ∧ ∀ d, H1 d = none → Q (.ref C) (some d) (upd H1 d (.xd (vFld v)))
theorem pmk_not {a : Expr} {ta : TA} {p pos : Pos} {k : Nat} (T : PySem.NotX.NotTxt X.K X.mg file C fI cc cda) (hr : Room k X.A) (ha : PA X [a] ta) (htop : (X.prog.main.scope.names.lookup ("super" : Str)).isSome = false) (hfile : ((X.prog.main.file : Str) == file) = true)
    (hg : Gl X "NotBindings" := by rfl)
    (he : starEach (a :: []) X.env = (false, eval a X.env) :: starEach [] X.env := by rfl) (hpl : (backTo pos (starEach [] X.env)).any (·.1) = false := by rfl) :
    PMk X (.Call (.Name "NotBindings" p) [a] [] pos) (tMkNot C ta) := by
  intro pins s σ H Q I h
  refine wpAny_Call_Name_kw (ld_glob I hg T.gC ?_)
  refine PySem.W.callWith_K (h₀ := X.base) I.ok.mod.kin T.kC (thn (ha.run pos pins s σ H _ I h) fun us s1 hh => ?_) he hpl
  obtain ⟨vs, H1, I1, r1, v, ev, q1⟩ := hh
  subst ev
  refine ⟨I1.kIn, ?_⟩
  cases r1 with
  | cons rv rn =>
    rename_i v' us'
    cases rn
    show wpAny _ _ (call (.ref C) [v']) _ _ _
    have hlim := I1.nolimit
    obtain ⟨mb, hmb, hbb⟩ := I1.mod.blt
    have hmb1 : s1.heap.Ns builtinsNs mb := hmb.keeps I1.bk
    have hmg1 : s1.heap.Ns mainGlobals X.mg := I1.mod.glob.keeps I1.bk
    have hsb : mb "super" = some (.type "super") := (hbb _ (by decide +kernel)).trans (by decide +kernel)
    obtain ⟨hp, g, dr, tk, os⟩ := s1
    refine wpAny_call (PySem.NotX.not_made T I1.kIn hlim hmg1 hmb1 hsb (by have := hr.dp; omega) htop hfile fun h' tk' e d M => ?_)
    show MkP X pins σ Q (.ref e) ⟨h', g, dr, tk', os⟩
    obtain ⟨oe, fv, hoe, hc, hd, hdat, h1⟩ := M.obj
    have hns := M.ns
    obtain ⟨G', g1, g2⟩ := restrict h' fun b => decide (b ≠ e)
    have gk : ∀ b, b ≠ e → G'.get? b = h'.get? b := fun b hb => g1 b (decide_eq_true hb)
    have ge : G'.get? e = none := g2 e (by simp)
    have old : ∀ b o, hp.get? b = some o → G'.get? b = some o := fun b o q => (gk b (Nat.ne_of_lt (Nat.lt_of_lt_of_le (Heap.lt_size q) M.new))).trans (M.keep b o q)
    have ob : ObjOk X.prog X.w (upd H1 d (.xd (vFld v))) G' d (.xd (vFld v)) :=
      ⟨_, hns.at (fun o q => (gk d M.dne).trans q), fun f => relO_val rv f⟩
    have J : Inv X pins σ (upd H1 d (.xd (vFld v))) ⟨G', g, dr, tk', os⟩ := I1.laid (t' := tk') old M.dbig ob
    refine ⟨e, oe, fv, ⟨G', g, dr, tk', os⟩, _, .ref C, some d, rfl, J, fun b o q => ?_, ge, hoe, ⟨hc, hd⟩, hdat, h1, ?_, rfl, I1.bare, raises_own T.exC T.tyC, q1 d (I1.hok.fresh M.dbig)⟩
    · by_cases hb : b = e
      · have q' : G'.get? b = some o := q
        rw [hb, ge] at q'; cases q'
      · exact (gk b hb).symm.trans q
    · rw [upd_ne (Ne.symm M.dne)]
      exact I1.hok.fresh M.new
/-- raise NotBindings(e) -/
def tRaiseNot (C : Addr) (W : WX) (ta : TA) : TS := fun _ σ H => tMkNot C ta σ H fun cls d H' => W cls d σ H'
theorem ps_raiseNot {a : Expr} {ta : TA} {W : WX} {p pos pos2 : Pos} {k : Nat} (hc : X.calm = true) (T : PySem.NotX.NotTxt X.K X.mg file C fI cc cda) (hr : Room k X.A) (tk : Takes X W) (ha : PA X [a] ta)
    (htop : (X.prog.main.scope.names.lookup ("super" : Str)).isSome = false) (hfile : ((X.prog.main.file : Str) == file) = true) (hg : Gl X "NotBindings" := by rfl)
    (he : starEach (a :: []) X.env = (false, eval a X.env) :: starEach [] X.env := by rfl) (hpl : (backTo pos (starEach [] X.env)).any (·.1) = false := by rfl) :
    PS X (.Raise (some (.Call (.Name "NotBindings" p) [a] [] pos)) none pos2) (tRaiseNot C W ta) := ps_raise hc tk (pmk_not T hr ha htop hfile hg he hpl)
/-- e.value, e the exception that the suite holds (at a; its class cls, its dict d) -/
def tByVal (C : Addr) (a : Addr) (cls : Value) (d : Option Addr) (te : TE) : TE := fun σ H Q => te σ H fun x H1 => x = .ref a ∧ cls = .ref C ∧ ∃ (dd : Addr) (v : V), d = some dd ∧ H1 dd = some (.xd (vFld v)) ∧ Q v H1
theorem pe_byVal {a : Addr} {oe : Obj} {cls : Value} {d : Option Addr} {pn : List (Addr × Obj)} {e : Expr} {te : TE} {pos : Pos} (T : PySem.NotX.NotTxt X.K X.mg file C fI cc cda) (hz : Zc cls d oe) (hf : ∃ vs, oe.data = .fields vs) (he : PE (X.suite a ((a, oe) :: pn)) e te)
    (hb : attributeBase e "value" X.env (eval e X.env) = eval e X.env := by rfl) :
    PE (X.suite a ((a, oe) :: pn)) (.Attribute e "value" pos) (tByVal C a cls d te) := by
  refine ⟨fun pins s σ H Q I h => ?_⟩
  refine attr_of hb (thn (he.run pins s σ H _ I h) fun u s1 hh => ?_)
  obtain ⟨x, H1, I1, rx, ex, ec, dd, v, ed, ea, q⟩ := hh
  subst ex
  obtain rfl : u = Value.ref a := rx
  subst ec
  subst ed
  obtain ⟨ha, _⟩ := I1.pin (a, oe) (List.mem_append_left _ List.mem_cons_self)
  obtain ⟨vs, hd⟩ := hf
  have hx : ObjOk X.prog X.w H1 s1.heap dd (.xd (vFld v)) := I1.hok dd _ ea
  obtain ⟨mA, hns, hr⟩ := hx
  obtain ⟨od, ho, hl⟩ := lookIn_ns hns
  have l : List.lookup ("value" : Str) (vFld v) = some v := by simp [List.lookup]
  obtain ⟨u, hu, ru⟩ := RelO.some_of (v := v) (o := mA "value") (by rw [← l]; exact hr "value")
  have J : PySem.W.InstAt s1.heap a oe C (some od) := ⟨ha, hz.1, by unfold PySem.W.notCls; rw [hd] <;> rfl, by rw [hz.2]; exact ho⟩
  exact HandSPX.exc_get I1.kIn J T.ga T.gg T.exC (PySem.W.findObj_own T.hdC T.noN rfl (by rw [hl, hu])) (handed_of ru) ⟨v, H1, I1.tok _, ru, q⟩
end
end K31
set_option Elab.async false
set_option linter.all false
set_option maxRecDepth 100000
/-! The text by places. -/
namespace K31
open PySem L2
def top (i : Nat) : Stmt := PySem.Challenge.pw_bindspan_k31_whole_env_expressions.main.body.getD i (.Pass ⟨0, 0, 0, 0⟩)
abbrev sNotI : Stmt := inClass (top 4) 0
abbrev sWord : Stmt := top 13
abbrev sIdent : Stmt := top 14
abbrev sValue : Stmt := top 17
abbrev sPair : Stmt := top 18
abbrev sAsc : Stmt := top 19
abbrev sInit : Stmt := inClass (top 20) 0
abbrev sLen : Stmt := inClass (top 20) 4
abbrev sEq : Stmt := inClass (top 20) 5
abbrev sOr : Stmt := inClass (top 20) 7
abbrev sRor : Stmt := inClass (top 20) 8
abbrev sSub : Stmt := inClass (top 20) 9
abbrev sListed : Stmt := inClass (top 20) 11
abbrev sOnly : Stmt := inClass (top 20) 12
abbrev sBind : Stmt := top 21
abbrev sState : Stmt := top 23
abbrev sDraw : Stmt := top 24
abbrev sKept : Stmt := top 25
abbrev sName : Stmt := top 26
abbrev sNames : Stmt := top 27
abbrev sVal : Stmt := top 28
abbrev sTable : Stmt := top 29
abbrev sOver : Stmt := top 30
abbrev sPart : Stmt := top 31
abbrev sPairs : Stmt := top 32
abbrev sIs : Stmt := top 33
abbrev sGrow : Stmt := top 34
abbrev sRef : Stmt := top 35
abbrev sLaw : Stmt := top 36
def nm (s : Stmt) : Str := match s with
  | .FunctionDef n _ _ _ _ _ _ _ _ _ => n
  | _ => ""
example : [sNotI, sWord, sIdent, sValue, sPair, sAsc, sInit, sLen, sEq, sOr, sRor, sSub, sListed, sOnly, sBind].map nm = (["__init__", "is_word", "is_identifier", "is_value", "check_pair", "ascending", "__init__", "__len__", "__eq__", "__or__", "__ror__", "__sub__", "listed", "only", "bindings_of"] : List Str) := by decide +kernel
example : [sState, sDraw, sKept, sName, sNames, sVal, sTable, sOver, sPart, sPairs, sIs, sGrow, sRef, sLaw].map nm = (["_law_state", "_law_draw", "_law_kept_words", "_law_name", "_law_names", "_law_value", "_law_table", "_law_over", "_law_part", "_law_pairs", "_law_is", "_law_grow", "_law_refused", "law"] : List Str) := by decide +kernel
end K31
set_option Elab.async false
set_option linter.all false
set_option maxRecDepth 100000
set_option maxHeartbeats 4000000
/-! The names of the top; the drawn numbers: _law_draw. -/
namespace K31
open PySem PySem.Spec PyProof.Rows L2
/-- a tuple that stands in the written part -/
def KTup (K : PySem.W.Frag) (a : Addr) (xs : List V) : Prop := ∃ (o : Obj) (its : Array Value) (n : Nat), K.lookup a = some o ∧ o.cls = .type "tuple" ∧ o.data = .seq its n ∧ its.size ≤ sizeLine ∧ Vals xs its.toList
theorem KTup.sq {K : PySem.W.Frag} {a : Addr} {xs : List V} (h : KTup K a xs) (H : Hp) : SqT K H a xs := .inr h
def LETT : Str := "abcdefghijklmnopqrstuvwxyz"
def DIGT : Str := "0123456789"
def KEPTS : List Str := ["name", "flag", "slot", "func", "open", "own", "look", "bind", "call", "keep", "take", "shift", "run", "drop", "apart", "when", "held", "fail", "guard", "else", "after", "end", "with", "of", "on", "off"]
/-- what the names of the top hold -/
structure Mg (K : PySem.W.Frag) (mg : Str → Option Value) : Prop where
  len : mg "len" = none
  isi : mg "isinstance" = none
  all : mg "all" = none
  srt : mg "sorted" = none
  lst : mg "list" = none
  dct : mg "dict" = none
  rng : mg "range" = none
  abs : mg "abs" = none
  int : mg "int" = none
  str : mg "str" = none
  tup : mg "tuple" = none
  boo : mg "bool" = none
  lett : ∃ t, mg "LETTERS" = some (.str LETT t)
  digt : ∃ t, mg "DIGITS" = some (.str DIGT t)
  long : ∃ t, mg "LONGEST" = some (.int 12 t)
  kept : ∃ a, mg "KEPT" = some (.ref a) ∧ KTup K a (KEPTS.map V.str)
  beyo : ∃ B t, mg "BEYOND" = some (.int B t) ∧ (10 : Int) ^ 31 ≤ B
/-- the drawing state: a list at st, the great numbers left at g -/
def StAt (st g : Addr) (H : Hp) : Prop := ∃ (ns : List Int) (x y z : Int), H st = some (.lst [.ref g, .int x, .int y, .int z]) ∧ st ≠ g ∧ H g = some (.lst (ns.map V.int)) ∧ 0 ≤ x ∧ ∀ n ∈ ns, 0 ≤ n
/-- nothing but the state is touched -/
def Kp (st g : Addr) (H H' : Hp) : Prop := ∀ b o, H b = some o → b ≠ st → b ≠ g → H' b = some o
theorem Kp.refl (st g : Addr) (H : Hp) : Kp st g H H := fun _ _ h _ _ => h
theorem Kp.trans {st g : Addr} {H H1 H2 : Hp} (a : Kp st g H H1) (b : Kp st g H1 H2) : Kp st g H H2 := fun c o h x y => b c o (a c o h x y) x y
theorem Kp.of {st g : Addr} {H H1 : Hp} (a : Same H H1) : Kp st g H H1 := fun c o h _ _ => a c o h
theorem Kp.at {st g p : Addr} {H H' : Hp} {o : HO} (a : Kp st g H H') (S : StAt st g H) (h : H p = some o) (n : ∀ xs, o ≠ .lst xs) : H' p = some o := by
  obtain ⟨ns, x, y, z, h1, h2, h3, _⟩ := S
  refine a p o h (fun e => ?_) (fun e => ?_)
  · rw [e, h1] at h; exact n _ (Option.some.inj h).symm
  · rw [e, h3] at h; exact n _ (Option.some.inj h).symm
theorem StAt.fresh {st g p : Addr} {H : Hp} {o : HO} (S : StAt st g H) (hp : H p = none) : StAt st g (upd H p o) := by
  obtain ⟨ns, x, y, z, h1, h2, h3, h4⟩ := S
  exact ⟨ns, x, y, z, by rw [upd_ne (ne_of_none h1 hp)]; exact h1, h2, by rw [upd_ne (ne_of_none h3 hp)]; exact h3, h4⟩
/-- a store to something that is no part of the state -/
theorem StAt.other {st g p : Addr} {H : Hp} {o : HO} (S : StAt st g H) (h1 : p ≠ st) (h2 : p ≠ g) : StAt st g (upd H p o) := by
  obtain ⟨ns, x, y, z, a1, a2, a3, a4⟩ := S
  exact ⟨ns, x, y, z, by rw [upd_ne h1.symm]; exact a1, a2, by rw [upd_ne h2.symm]; exact a3, a4⟩
theorem same_new {H : Hp} {p : Addr} {o : HO} (hp : H p = none) : Same H (upd H p o) := fun b u e => by
  rw [upd_ne (ne_of_none e hp)]; exact e
def spDraw : Sp := fun vs H Q _ => ∃ (st g : Addr) (m : Int), vs = [.ref st, .int m] ∧ 0 < m ∧ m ≤ 10 ^ 30 ∧ StAt st g H ∧ ∀ (r : Int) (H' : Hp), 0 ≤ r → r < m → StAt st g H' → Kp st g H H' → Q (.int r) H'
theorem dpAll_int {K : PySem.W.Frag} {H : Hp} : ∀ ns : List Int, DpAll K H (ns.map V.int) (ns.map PyData.int)
  | [] => .nil
  | n :: r => .cons (.int n) (dpAll_int r)
theorem eqv_ints_nil (ns : List Int) : PyData.eqv (.list (ns.map PyData.int)) (.list []) = decide (ns = []) := by
  cases ns with
  | nil => simp [PyData.eqv, PyData.eqvAll]
  | cons n r => simp [PyData.eqv, PyData.eqvAll]
theorem seqIndex0 (n : Nat) : seqIndex? 0 (n + 1) = some 0 := by
  unfold seqIndex?
  simp
  all_goals omega
theorem small_div {m : Int} (h0 : 0 < m) (h : m ≤ 10 ^ 30) : CDivW m m := ⟨h0, by
  have e : m.natAbs < 2 ^ 9000 := by
    have a : m.natAbs ≤ 10 ^ 30 := by
      have : (m.natAbs : Int) = m := Int.natAbs_of_nonneg (Int.le_of_lt h0)
      have : (m.natAbs : Int) ≤ ((10 ^ 30 : Nat) : Int) := by rw [this]; exact h
      exact Int.ofNat_le.mp this
    exact Nat.lt_of_le_of_lt a (by decide +kernel)
  have ne : m.natAbs ≠ 0 := by omega
  exact (Nat.log2_lt ne).mpr e⟩
section
variable {P : Program} {w : World} {K : PySem.W.Frag} {mg : Str → Option Value} {base : Heap}
theorem scDraw : FnScope ["_law_state_here", "_law_many", "_law_value_here"] ["_law_state_here", "_law_many"] (defScope sDraw) := ⟨rfl, rfl, rfl, by decide +kernel, rfl, by decide +kernel, by decide +kernel⟩
theorem ok_draw {f : Addr} {fd : FuncData} (F : Fun K "_law_draw" "_law_draw" sDraw f fd) (M : Mg K mg) : FnOk P w K mg base CX0 1 f fd ["_law_state_here", "_law_many"] spDraw := by
  refine F.ok scDraw (fun vs H Q E h => ?_) (fun cdv A outer s H vs Q E hr h => ?_)
  · obtain ⟨st, g, m, rfl, _⟩ := h
    rfl
  · obtain ⟨st, g, m, rfl, m0, m1, S, k⟩ := h
    have hlen : ∀ n : Nat, n ≤ 4 → n ≤ sizeLine := fun n h => Nat.le_trans h (by decide)
    refine ⟨_, C8.pss_cut (ps_if (PW.pt (pw_and (pt_cmpR op_eq (pe_ix ix_list (pv 0) pe_int (fun _ _ => rfl)) pe_int (nomark _)) (pw_and1 (pt_cmpR (op_neD hr.units) (pe_ix ix_list (pv 0) pe_int (fun _ _ => rfl)) (pe_lst pa_nil) (nomark _)))))
        (pss_one (ps_asg (pe_bm PySem.F.plainAttrs_list PySem.F.slot_list_pop PySem.F.type_list_pop mt_popAt (pe_ix ix_list (pv 0) pe_int (fun _ _ => rfl)) (pa_cons pe_int pa_nil)) (pg_sub (pv 0) pe_int set_list))) pss_nil)
      (pss_cons (ps_if (pt_cmpR op_gt (pe_ix ix_list (pv 0) pe_int (fun _ _ => rfl)) pe_int (nomark _))
        (pss_cons (ps_set (i := 2) scDraw.nd rfl (Or.inl rfl) (pe_op op_mod (pe_callTy call_int1 (by rfl) M.int (by decide +kernel) (pa_cons (pe_ix ix_list (pv 0) pe_int (fun _ _ => rfl)) pa_nil)) (pv 1)))
        (pss_cons (ps_asg (pe_op op_fdivW (pe_ix ix_list (pv 0) pe_int (fun _ _ => rfl)) (pv 1)) (pg_sub (pv 0) pe_int set_list))
        (pss_one (ps_ret (pv 2))))) pss_nil)
      (pss_cons (ps_augS (pv 0) pe_int pget_list pe_int ip_add set_list)
      (pss_cons (ps_asg (pe_op op_mod (pe_op op_add (pe_op op_add (pe_op op_mul (pe_ix ix_list (pv 0) pe_int (fun _ _ => rfl)) pe_int) (pe_op op_mul pe_int (pe_ix ix_list (pv 0) pe_int (fun _ _ => rfl)))) pe_int) pe_int) (pg_sub (pv 0) pe_int set_list))
      (pss_one (ps_ret (pe_op op_mod (pe_op op_fdiv (pe_op op_mod (pe_op op_pow (pe_ix ix_list (pv 0) pe_int (fun _ _ => rfl)) pe_int) pe_int) pe_int) (pv 1))))))), ?_⟩
    refine ⟨fun σ H1 => σ = [some (.ref st), some (.int m), none] ∧ StAt st g H1 ∧ Kp st g H H1, ?_, ?_⟩
    · obtain ⟨ns, x, y, z, h1, h2, h3, h4, h5⟩ := id S
      refine ⟨_, rfl, st, _, _, _, rfl, rfl, SqL.of h1, (atI_nat (j := 1) rfl), rfl, _, rfl, ?_⟩
      refine ite2 (fun _ => ?_) (fun _ => ?_)
      · refine ⟨_, rfl, st, _, _, _, rfl, rfl, SqL.of h1, (atI_nat (j := 0) rfl), Nat.zero_le _, fun l hl => ?_⟩
        have s0 := same_new (o := .lst []) hl
        refine ⟨_, _, .lst (SqL.of (s0 _ _ h3)) (dpAll_int ns), .lst (SqL.of upd_same) .nil, PySem.W.ke_shaped_ints ns, PySem.W.ke_shaped_ints [], _, rfl, ?_⟩
        rw [eqv_ints_nil]
        refine ite2 (fun e => ?_) (fun e => ?_)
        · obtain ⟨n, r, rfl⟩ : ∃ n r, ns = n :: r := by
            cases ns with
            | nil => simp at e
            | cons n r => exact ⟨n, r, rfl⟩
          refine ⟨_, rfl, st, _, _, _, rfl, rfl, SqL.of (s0 _ _ h1), (atI_nat (j := 0) rfl), .inl ⟨rfl, _, SqL.of (s0 _ _ h3)⟩, g, _, _, 0, .int n, rfl, rfl, s0 _ _ h3, by decide, by decide, (by rw [List.length_map]; exact seqIndex0 r.length), rfl, ?_⟩
          refine ⟨_, rfl, st, _, _, 1, rfl, rfl, (by rw [upd_ne h2]; exact s0 _ _ h1), rfl, ?_⟩
          refine ⟨rfl, ⟨r, n, y, z, upd_same, h2, ?_, h5 n List.mem_cons_self, fun q hq => h5 q (List.mem_cons_of_mem _ hq)⟩, fun b o hb n1 n2 => ?_⟩
          · rw [upd_ne h2.symm, upd_same]
            rfl
          · rw [upd_ne n1, upd_ne n2]
            exact s0 _ _ hb
        · exact ⟨rfl, S.fresh hl, Kp.of s0⟩
      · exact ⟨rfl, S, Kp.refl _ _ _⟩
    · rintro σ H1 ⟨rfl, ⟨ns, x, y, z, h1, h2, h3, h4, h5⟩, k1⟩
      refine ⟨_, rfl, st, _, _, _, rfl, rfl, SqL.of h1, (atI_nat (j := 1) rfl), _, _, rfl, rfl, _, rfl, ?_⟩
      refine ite2 (fun hx => ?_) (fun hx => ?_)
      · refine ⟨_, rfl, st, _, _, _, rfl, rfl, SqL.of h1, (atI_nat (j := 1) rfl), .inl ⟨x, rfl, _, rfl, _, _, rfl, rfl, m0, ?_⟩⟩
        refine ⟨_, rfl, st, _, _, _, rfl, rfl, SqL.of h1, (atI_nat (j := 1) rfl), _, rfl, x, m, rfl, rfl, ⟨m0, (small_div m0 m1).2⟩, ?_⟩
        refine ⟨_, rfl, st, _, _, 1, rfl, rfl, h1, rfl, ?_⟩
        refine ⟨_, rfl, ?_⟩
        refine k (x % m) _ (Int.emod_nonneg _ (Int.ne_of_gt m0)) (Int.emod_lt_of_pos _ m0) ⟨ns, x / m, y, z, upd_same, h2, (by rw [upd_ne h2.symm]; exact h3), Int.ediv_nonneg h4 (Int.le_of_lt m0), h5⟩ fun b o hb n1 n2 => ?_
        rw [upd_ne n1]
        exact k1 b o hb n1 n2
      · have hx0 : x = 0 := by
          have : ¬ 0 < x := fun q => hx (by simpa using q)
          omega
        refine ⟨_, rfl, st, _, 2, _, rfl, rfl, by decide, by decide, h1, rfl, y, 1, rfl, rfl, st, _, _, 2, rfl, rfl, h1, rfl, ?_⟩
        have c1 : ∀ i : Int, upd H1 st (.lst [.ref g, .int x, .int i, .int z]) st = some (.lst [.ref g, .int x, .int i, .int z]) := fun _ => upd_same
        refine ⟨_, rfl, st, _, _, _, rfl, rfl, SqL.of (c1 (y + 1)), (atI_nat (j := 3) rfl), z, _, rfl, rfl, .inr ⟨by decide, by decide⟩, ?_⟩
        refine ⟨_, rfl, st, _, _, _, rfl, rfl, SqL.of (c1 (y + 1)), (atI_nat (j := 2) rfl), _, y + 1, rfl, rfl, .inl ⟨by decide, by decide⟩, ?_⟩
        refine ⟨_, _, rfl, rfl, _, _, rfl, rfl, _, _, rfl, rfl, (by show (0 : Int) < 2147483647; decide), ?_⟩
        refine ⟨_, rfl, st, _, _, 3, rfl, rfl, c1 (y + 1), rfl, ?_⟩
        let z' : Int := (z * 48271 + 40692 * (y + 1) + 12345) % 2147483647
        have z0 : 0 ≤ z' := Int.emod_nonneg _ (by decide)
        have z1 : z' < 2147483647 := Int.emod_lt_of_pos _ (by decide)
        refine ⟨_, rfl, st, _, _, _, rfl, rfl, SqL.of upd_same, (atI_nat (j := 3) rfl), z', _, rfl, rfl, ⟨by decide, by decide, by omega⟩, ?_⟩
        refine ⟨_, _, rfl, rfl, (by show (0 : Int) < 2147483629; decide), _, _, rfl, rfl, ⟨by decide, by decide⟩, _, rfl, _, _, rfl, rfl, m0, ?_⟩
        refine k _ _ (Int.emod_nonneg _ (Int.ne_of_gt m0)) (Int.emod_lt_of_pos _ m0) ⟨ns, x, y + 1, z', upd_same, h2, (by rw [upd_ne h2.symm, upd_ne h2.symm]; exact h3), h4, h5⟩ fun b o hb n1 n2 => ?_
        rw [upd_ne n1, upd_ne n1]
        exact k1 b o hb n1 n2
end
end K31
set_option Elab.async false
set_option linter.all false
set_option maxRecDepth 100000
set_option maxHeartbeats 4000000
/-! The names: plain Lean. -/
namespace K31
open PySem PySem.Spec PyProof.Rows L2
def KW1 : Str := "name flag slot func open own look bind of call keep take shift run with drop apart when"
def KW2 : Str := " held else guard after fail end on off"
def KWS : List Str := Txt.split (KW1 ++ KW2) " "
theorem kept_in : ∀ k ∈ KEPTS, k ∈ KWS := by decide +kernel
def noDig (s : Str) : Bool := s.cps.toList.all fun c => !DIGT.cps.toList.contains c
theorem kws_noDig : ∀ k ∈ KWS, noDig k = true := by decide +kernel
def isLet (c : Nat) : Prop := c ∈ LETT.cps.toList
def SgnOk (c : Nat) : Prop := c ∈ LETT.cps.toList ∨ c ∈ DIGT.cps.toList
/-- what a base, a choice is -/
def Wordy (s : Str) : Prop := s.cps.toList.length ≤ 12 ∧ (∃ c r, s.cps.toList = c :: r ∧ isLet c) ∧ ∀ c ∈ s.cps.toList, SgnOk c
def Ident (s : Str) : Prop := Wordy s ∧ s ∉ KEPTS
/-- the k-th number behind a cut base -/
def tail2 (k : Nat) : Str := toString (((10 : Int) + (0 + (k : Int))))
def variant (b : Str) (k : Nat) : Str := cutS b none (some 9) ++ tail2 k
def choices (b : Str) : List Str := b :: (List.range 20).map (variant b)
def isFree (ns : List Str) (s : Str) : Bool := !(ns.any fun y => y == s) && !(KWS.any fun y => y == s)
def t2ok (k : Nat) : Bool := (tail2 k).cps.toList.length == 2 && (tail2 k).cps.toList.all fun c => DIGT.cps.toList.contains c
theorem t2_all : ∀ k ∈ List.range 20, t2ok k = true := by decide +kernel
theorem t2_nodup : ((List.range 20).map tail2).Nodup := by decide +kernel
theorem cps_app (a b : Str) : (a ++ b).cps.toList = a.cps.toList ++ b.cps.toList := by
  show (a.cps ++ b.cps).toList = _
  simp
theorem cut9 (b : Str) : (cutS b none (some 9)).cps.toList = b.cps.toList.take 9 := by
  unfold cutS
  have e0 : HT.sIx b.length 0 none = 0 := rfl
  have e1 : HT.sIx b.length b.length (some 9) = min 9 b.length := by
    unfold HT.sIx
    simp
    all_goals omega
  have hl : b.length = b.cps.toList.length := by simp [Str.length]
  rw [e0, e1]
  simp only [Nat.sub_zero, List.drop_zero, List.toList_toArray]
  rw [hl, List.take_eq_take_iff]
  omega
theorem pigeon {α : Type} [DecidableEq α] : ∀ (xs ys : List α), xs.Nodup → (∀ x ∈ xs, x ∈ ys) → xs.length ≤ ys.length
  | [], _, _, _ => Nat.zero_le _
  | x :: xs, ys, hn, h => by
    have hx : x ∈ ys := h x List.mem_cons_self
    have hn' := List.nodup_cons.mp hn
    have := pigeon xs (ys.erase x) hn'.2 fun z hz => (List.mem_erase_of_ne (fun e => hn'.1 (by rw [← e]; exact hz))).mpr (h z (List.mem_cons_of_mem _ hz))
    rw [List.length_erase_of_mem hx] at this
    have : 0 < ys.length := List.length_pos_of_mem hx
    simp only [List.length_cons]
    omega
theorem str_ext {a b : Str} (h : a.cps.toList = b.cps.toList) : a = b := by
  cases a; cases b
  simp at h
  simp [h]
theorem variant_inj (b : Str) {j k : Nat} (hj : j ∈ List.range 20) (hk : k ∈ List.range 20) (e : variant b j = variant b k) : tail2 j = tail2 k := by
  have e1 : (variant b j).cps.toList = (variant b k).cps.toList := by rw [e]
  unfold variant at e1
  rw [cps_app, cps_app] at e1
  exact str_ext (List.append_cancel_left e1)
theorem nodup_map_of {α β γ : Type} {f : α → β} {g : α → γ} : ∀ {xs : List α}, (xs.map g).Nodup → (∀ a ∈ xs, ∀ b ∈ xs, f a = f b → g a = g b) → (xs.map f).Nodup
  | [], _, _ => List.nodup_nil
  | x :: xs, h, e => by
    rw [List.map_cons, List.nodup_cons] at h ⊢
    refine ⟨fun z => h.1 ?_, nodup_map_of h.2 fun a ha b hb => e a (List.mem_cons_of_mem _ ha) b (List.mem_cons_of_mem _ hb)⟩
    obtain ⟨y, hy, ey⟩ := List.mem_map.mp z
    rw [e x List.mem_cons_self y (List.mem_cons_of_mem _ hy) ey.symm]
    exact List.mem_map_of_mem hy
theorem variant_nodup (b : Str) : ((List.range 20).map (variant b)).Nodup := nodup_map_of t2_nodup fun j hj k hk e => variant_inj b hj hk e
theorem variant_wordy {b : Str} (h : Wordy b) {k : Nat} (hk : k ∈ List.range 20) : Wordy (variant b k) ∧ variant b k ∉ KWS := by
  have t := t2_all k hk
  unfold t2ok at t
  simp only [Bool.and_eq_true, beq_iff_eq, List.all_eq_true, List.contains_iff_mem] at t
  obtain ⟨h1, ⟨c, r, h2, h3⟩, h4⟩ := h
  have e : (variant b k).cps.toList = b.cps.toList.take 9 ++ (tail2 k).cps.toList := by
    unfold variant
    rw [cps_app, cut9]
  refine ⟨⟨?_, ⟨c, r.take 8 ++ (tail2 k).cps.toList, ?_, h3⟩, fun x hx => ?_⟩, fun z => ?_⟩
  · rw [e, List.length_append, List.length_take, t.1]
    omega
  · rw [e, h2]
    rfl
  · rw [e, List.mem_append] at hx
    rcases hx with hx | hx
    · exact h4 x (List.mem_of_mem_take hx)
    · exact .inr (t.2 x hx)
  · have q := kws_noDig _ z
    unfold noDig at q
    rw [List.all_eq_true] at q
    have l : (tail2 k).cps.toList ≠ [] := fun q => by rw [q] at t; simp at t
    obtain ⟨x, ys, hx⟩ := List.exists_cons_of_ne_nil l
    have hm : x ∈ (tail2 k).cps.toList := by rw [hx]; exact List.mem_cons_self
    have q1 := q x (by rw [e]; exact List.mem_append_right _ hm)
    have q2 := t.2 x hm
    simp at q1
    exact q1 (by simpa using q2)
theorem isFree_iff {ns : List Str} {s : Str} : isFree ns s = true ↔ s ∉ ns ∧ s ∉ KWS := by
  unfold isFree
  rw [Bool.and_eq_true, Bool.not_eq_true', Bool.not_eq_true', List.any_eq_false, List.any_eq_false]
  constructor
  · rintro ⟨a, b⟩
    exact ⟨fun z => a s z (by simp), fun z => b s z (by simp)⟩
  · rintro ⟨a, b⟩
    exact ⟨fun x hx q => a (by rw [← beq_iff_eq.mp q]; exact hx), fun x hx q => b (by rw [← beq_iff_eq.mp q]; exact hx)⟩
theorem choices_wordy {b : Str} (h : Wordy b) : ∀ s ∈ choices b, Wordy s := by
  intro s hs
  rcases List.mem_cons.mp hs with rfl | hs
  · exact h
  · obtain ⟨k, hk, rfl⟩ := List.mem_map.mp hs
    exact (variant_wordy h hk).1
/-- the first free choice -/
theorem free_first {b : Str} {ns : List Str} (h : Wordy b) (hn : ns.length < 20) : ∃ s r, (choices b).filter (isFree ns) = s :: r ∧ Ident s ∧ s ∉ ns := by
  cases e : (choices b).filter (isFree ns) with
  | cons s r =>
    have hs : s ∈ (choices b).filter (isFree ns) := by rw [e]; exact List.mem_cons_self
    obtain ⟨h1, h2⟩ := List.mem_filter.mp hs
    obtain ⟨h3, h4⟩ := isFree_iff.mp h2
    exact ⟨s, r, rfl, ⟨choices_wordy h s h1, fun z => h4 (kept_in s z)⟩, h3⟩
  | nil =>
    have := pigeon ((List.range 20).map (variant b)) ns (variant_nodup b) fun s hs => by
      obtain ⟨k, hk, rfl⟩ := List.mem_map.mp hs
      by_cases q : variant b k ∈ ns
      · exact q
      · have hm : variant b k ∈ (choices b).filter (isFree ns) := List.mem_filter.mpr ⟨List.mem_cons_of_mem _ hs, isFree_iff.mpr ⟨q, (variant_wordy h hk).2⟩⟩
        rw [e] at hm
        cases hm
    simp at this
    omega
theorem inV_strs (s : Str) (ns : List Str) : inV (.str s) (ns.map V.str) = ns.any fun y => y == s := by
  unfold inV
  rw [List.any_map]
  rfl
theorem flat_strs (ns : List Str) : (ns.map V.str).all flatV = true := by simp [flatV]
end K31
set_option Elab.async false
set_option linter.all false
set_option maxRecDepth 100000
set_option maxHeartbeats 4000000
/-! _law_state, _law_kept_words, _law_name, _law_names: walks. -/
namespace K31
open PySem PySem.Spec PyProof.Rows L2
def spState (K : PySem.W.Frag) : Sp := fun vs H Q _ => ∃ (a : Addr) (ns : List Int), vs = [.ref a] ∧ SqL K H a (ns.map V.int) ∧ ns.length ≤ 63 ∧
  ∀ (st g : Addr) (H' : Hp), H st = none → H g = none → StAt st g H' → Same H H' → Q (.ref st) H'
def spKept : Sp := fun vs H Q _ => vs = [] ∧ ∀ p, H p = none → Q (.ref p) (upd H p (.lst (KWS.map V.str)))
section
variable {P : Program} {w : World} {K : PySem.W.Frag} {mg : Str → Option Value} {base : Heap}
theorem scState : FnScope ["_law_script", "_law_seed", "_law_great", "_law_cell"] ["_law_script"] (defScope sState) := ⟨rfl, rfl, rfl, by decide +kernel, rfl, by decide +kernel, by decide +kernel⟩
theorem ok_state {f : Addr} {fd : FuncData} (F : Fun K "_law_state" "_law_state" sState f fd) (M : Mg K mg) : FnOk P w K mg base CX0 1 f fd ["_law_script"] (spState K) := by
  refine F.ok scState (fun vs H Q E h => ?_) (fun cdv A outer s H vs Q E hr h => ?_)
  · obtain ⟨a, ns, rfl, _⟩ := h
    rfl
  · obtain ⟨a, ns, rfl, hS, hlen, k⟩ := h
    refine ⟨_, pss_cons (ps_set (i := 1) scState.nd rfl (Or.inl rfl) pe_int) (pss_cons (ps_set (i := 2) scState.nd rfl (Or.inl rfl) (pe_lst pa_nil))
      (pss_cons (ps_for PassesOwn.never rfl (pi_list (pv 0)) (pg_name (i := 3) scState.nd rfl (Or.inl rfl))
        (pss_cons (ps_set (i := 1) scState.nd rfl (Or.inl rfl) (pe_op op_mod (pe_op op_add (pe_op op_add (pe_op op_mul (pv 1) pe_int) (pe_op op_mod (pe_callTy call_int1 (by rfl) M.int (by decide +kernel) (pa_cons (pv 3) pa_nil)) pe_int)) pe_int) pe_int))
        (pss_one (ps_if (pt_cmpR op_ge (pe_callB call_abs (by rfl) M.abs (by decide +kernel) (pa_cons (pv 3) pa_nil)) (pe_op op_pow pe_int pe_int) (nomark _))
          (pss_one (ps_expr (pe_bm PySem.F.plainAttrs_list PySem.F.slot_list_append PySem.F.type_list_append mt_append (pv 2) (pa_cons (pe_callB call_abs (by rfl) M.abs (by decide +kernel) (pa_cons (pv 3) pa_nil)) pa_nil)))) pss_nil))))
      (pss_one (ps_ret (pe_lst (pa_cons (pv 2) (pa_cons pe_int (pa_cons pe_int (pa_cons (pv 1) pa_nil))))))))), ?_⟩
    refine ⟨Nat.zero_le _, fun g hg => ?_⟩
    have s0 := same_new (o := .lst []) hg
    refine ⟨_, rfl, a, rfl, ⟨_, s0.seq hS⟩, for_list (K := K) (a := a) (xs := ns.map V.int) (fun i σ H2 => ∃ (gs : List Int) (z : Int) (v : Option V), σ = [some (.ref a), some (.int z), some (.ref g), v] ∧ Same H H2 ∧ H2 g = some (.lst (gs.map V.int)) ∧ (∀ n ∈ gs, 0 ≤ n) ∧ gs.length ≤ i)
      ⟨[], 1, none, rfl, s0, upd_same, fun n hn => (by cases hn), Nat.le_refl _⟩ (fun i σ H2 _ ⟨_, _, _, _, s2, _⟩ => s2.seq hS) ?_ ?_⟩
    · rintro i y σ H2 hi ⟨gs, z, v, rfl, s2, hG, hpos, hgl⟩
      have hil : i < (ns.map V.int).length := (List.getElem?_eq_some_iff.mp hi).1
      rw [List.length_map] at hil
      obtain ⟨n, rfl⟩ : ∃ n, y = V.int n := by
        rw [List.getElem?_map] at hi
        cases e : ns[i]? with
        | none => rw [e] at hi; cases hi
        | some n => rw [e] at hi; exact ⟨n, (Option.some.inj hi).symm⟩
      refine ⟨_, rfl, z, _, rfl, rfl, .inr ⟨by decide, by decide⟩, _, rfl, .inl ⟨n, rfl, _, _, rfl, rfl, (by show (0 : Int) < 2147483647; decide), _, _, rfl, rfl, _, _, rfl, rfl, _, _, rfl, rfl, (by show (0 : Int) < 2147483647; decide), ?_⟩⟩
      refine ⟨_, rfl, n, rfl, _, _, rfl, rfl, ⟨by decide, by decide, by decide⟩, _, _, rfl, rfl, _, rfl, ?_⟩
      refine ite2 (fun _ => ?_) (fun _ => ?_)
      · refine ⟨_, rfl, .inl ⟨rfl, _, SqL.of hG⟩, _, rfl, n, rfl, g, _, _, rfl, rfl, hG, (by rw [List.length_map]; exact small1000 (by omega)), ?_⟩
        refine ⟨gs ++ [if n < 0 then -n else n], _, _, rfl, fun b o e => ?_, ?_, fun m hm => ?_, ?_⟩
        · rw [upd_ne (ne_of_none e hg)]
          exact s2 b o e
        · rw [upd_same, List.map_append]
          rfl
        · rcases List.mem_append.mp hm with hm | hm
          · exact hpos m hm
          · rw [List.mem_singleton.mp hm]
            split <;> omega
        · rw [List.length_append]
          show gs.length + 1 ≤ i + 1
          omega
      · exact ⟨gs, _, _, rfl, s2, hG, hpos, by omega⟩
    · rintro σ H2 ⟨gs, z, v, rfl, s2, hG, hpos, hgl⟩
      refine ⟨_, rfl, _, rfl, (by show 4 ≤ sizeLine; decide), fun st hst => ?_⟩
      have s3 := same_new (o := .lst [.ref g, .int 0, .int 0, .int z]) hst
      refine k st g _ (s2.free hst) hg ⟨gs, 0, 0, z, upd_same, fun e => ?_, s3 _ _ hG, by decide, hpos⟩ (s2.trans s3)
      rw [e, hG] at hst
      cases hst
theorem scKept : FnScope ["_law_words"] [] (defScope sKept) := ⟨rfl, rfl, rfl, by decide +kernel, rfl, by decide +kernel, by decide +kernel⟩
theorem ok_kept {f : Addr} {fd : FuncData} (F : Fun K "_law_kept_words" "_law_kept_words" sKept f fd) : FnOk P w K mg base CX0 1 f fd [] spKept := by
  refine F.ok scKept (fun vs H Q E h => ?_) (fun cdv A outer s H vs Q E hr h => ?_)
  · obtain ⟨rfl, _⟩ := h
    rfl
  · obtain ⟨rfl, k⟩ := h
    refine ⟨_, pss_cons (ps_set (i := 0) scKept.nd rfl (Or.inl rfl) pe_str) (pss_one (ps_ret (pe_split (pe_op op_add_str (pv 0) pe_str) pe_str))), ?_⟩
    refine ⟨_, rfl, _, _, rfl, rfl, (by decide +kernel), ⟨_, rfl⟩, _, _, rfl, rfl, (by decide +kernel), (by decide +kernel), fun p hp => ?_⟩
    exact k p hp
/-- names at a list -/
def spName : Sp := fun vs H Q _ => ∃ (st g nl : Addr) (ns : List Str), vs = [.ref st, .ref nl] ∧ StAt st g H ∧ H nl = some (.lst (ns.map V.str)) ∧ nl ≠ st ∧ nl ≠ g ∧ ns.length ≤ 6 ∧
  ∀ (z : Str) (H' : Hp), Ident z → z ∉ ns → StAt st g H' → Kp st g H H' → Q (.str z) H'
theorem lett_at {r : Int} (h0 : 0 ≤ r) (h1 : r < 26) : ∃ c, atI LETT.cps.toList r = some c ∧ isLet c := by
  obtain ⟨j, rfl⟩ : ∃ j : Nat, r = j := ⟨r.toNat, by omega⟩
  have hj : j < LETT.cps.toList.length := by
    have e : LETT.cps.toList.length = 26 := by decide +kernel
    omega
  exact ⟨LETT.cps.toList[j], atI_nat (List.getElem?_eq_getElem hj), List.getElem_mem hj⟩
theorem sgn_at {r : Int} (h0 : 0 ≤ r) (h1 : r < 36) : ∃ c, atI (LETT ++ DIGT).cps.toList r = some c ∧ SgnOk c := by
  obtain ⟨j, rfl⟩ : ∃ j : Nat, r = j := ⟨r.toNat, by omega⟩
  have hj : j < (LETT ++ DIGT).cps.toList.length := by
    have e : (LETT ++ DIGT).cps.toList.length = 36 := by decide +kernel
    omega
  refine ⟨(LETT ++ DIGT).cps.toList[j], atI_nat (List.getElem?_eq_getElem hj), ?_⟩
  have m : (LETT ++ DIGT).cps.toList[j] ∈ LETT.cps.toList ++ DIGT.cps.toList := by
    have m0 := List.getElem_mem hj
    simpa only [cps_app] using m0
  rcases List.mem_append.mp m with m | m
  · exact .inl m
  · exact .inr m
def LENS : List Int := [0, 1, 2, 3, 7, 11]
theorem lens_at {r : Int} (h0 : 0 ≤ r) (h1 : r < 6) : ∃ n : Nat, atI (LENS.map V.int) r = some (.int n) ∧ n ≤ 11 := by
  obtain ⟨j, rfl⟩ : ∃ j : Nat, r = j := ⟨r.toNat, by omega⟩
  have hj : j < 6 := by omega
  match j, hj with
  | 0, _ => exact ⟨0, atI_nat rfl, by decide⟩
  | 1, _ => exact ⟨1, atI_nat rfl, by decide⟩
  | 2, _ => exact ⟨2, atI_nat rfl, by decide⟩
  | 3, _ => exact ⟨3, atI_nat rfl, by decide⟩
  | 4, _ => exact ⟨7, atI_nat rfl, by decide⟩
  | 5, _ => exact ⟨11, atI_nat rfl, by decide⟩
/-- a base of at most n signs -/
def BaseOk (b : Str) (n : Nat) : Prop := b.cps.toList.length ≤ n ∧ (∃ c r, b.cps.toList = c :: r ∧ isLet c) ∧ ∀ c ∈ b.cps.toList, SgnOk c
theorem one_base {c : Nat} (h : isLet c) : BaseOk ⟨#[c]⟩ 1 := ⟨Nat.le_refl _, ⟨c, [], rfl, h⟩, fun x hx => by
  have e : x = c := by simpa using hx
  rw [e]; exact .inl h⟩
theorem more_base {b : Str} {n c : Nat} (h : BaseOk b n) (hc : SgnOk c) : BaseOk (b ++ ⟨#[c]⟩) (n + 1) := by
  obtain ⟨h1, ⟨d, r, h2, h3⟩, h4⟩ := h
  refine ⟨?_, ⟨d, r ++ [c], ?_, h3⟩, fun x hx => ?_⟩
  · rw [cps_app, List.length_append]
    show b.cps.toList.length + 1 ≤ n + 1
    omega
  · rw [cps_app, h2]
    rfl
  · rw [cps_app, List.mem_append] at hx
    rcases hx with hx | hx
    · exact h4 x hx
    · have e : x = c := by simpa using hx
      rw [e]; exact hc
theorem str_len (b : Str) : b.length = b.cps.toList.length := by simp [Str.length]
theorem scName : FnScope ["_law_state_here", "_law_names_here", "_law_letters", "_law_base", "_law_k", "_law_choices", "_law_free", "_law_name_here"] ["_law_state_here", "_law_names_here"] (defScope sName) := ⟨rfl, rfl, rfl, by decide +kernel, rfl, by decide +kernel, by decide +kernel⟩
theorem ok_name {f fD fW : Addr} {fd fdD fdW : FuncData} (F : Fun K "_law_name" "_law_name" sName f fd) (M : Mg K mg) (FD : Fun K "_law_draw" "_law_draw" sDraw fD fdD) (mD : mg "_law_draw" = some (.ref fD)) (bD : Binds K fdD ["_law_state_here", "_law_many"] [])
    (FW : Fun K "_law_kept_words" "_law_kept_words" sKept fW fdW) (mW : mg "_law_kept_words" = some (.ref fW)) (bW : Binds K fdW [] []) : FnOk P w K mg base CX0 2 f fd ["_law_state_here", "_law_names_here"] spName := by
  have GD : FnOk P w K mg base CX0 1 fD fdD ["_law_state_here", "_law_many"] spDraw := ok_draw FD M
  have GW : FnOk P w K mg base CX0 1 fW fdW [] spKept := ok_kept FW
  refine F.ok scName (fun vs H Q E h => ?_) (fun cdv A outer s H vs Q E hr h => ?_)
  · obtain ⟨st, g, nl, ns, rfl, _⟩ := h
    rfl
  · obtain ⟨st, g, nl, ns, rfl, S, hN, n1, n2, hlen, k⟩ := h
    refine ⟨_, pss_cons (ps_set (i := 2) scName.nd rfl (Or.inl rfl) pe_str)
      (pss_cons (ps_set (i := 3) scName.nd rfl (Or.inr rfl) (pe_ix ix_str (pv 2) (pe_call GD hr rfl mD FD.kp bD .nil pass0 (pa_cons (pv 0) (pa_cons pe_int pa_nil))) (fun _ _ => rfl)))
      (pss_cons (ps_for PassesOwn.never rfl (pi_range1 rfl M.rng (pa_cons (pe_ix ix_tup (pe_tup (pa_cons pe_int (pa_cons pe_int (pa_cons pe_int (pa_cons pe_int (pa_cons pe_int (pa_cons pe_int pa_nil))))))) (pe_call GD hr rfl mD FD.kp bD .nil pass0 (pa_cons (pv 0) (pa_cons pe_int pa_nil))) (fun _ _ => rfl)) pa_nil)) (pg_name (i := 4) scName.nd rfl (Or.inl rfl))
        (pss_one (ps_set (i := 3) scName.nd rfl (Or.inr rfl) (pe_op op_add_str (pv 3) (pe_ix ix_str (pe_op op_add_str (pv 2) pe_str) (pe_call GD hr rfl mD FD.kp bD .nil pass0 (pa_cons (pv 0) (pa_cons pe_int pa_nil))) (fun _ _ => rfl))))))
      (pss_cons (ps_set (i := 5) scName.nd rfl (Or.inl rfl) (pe_op op_cat (pe_lst (pa_cons (pv 3) pa_nil))
        (pe_lc (own := [("_law_k", 4)]) (g := gName 4) (tt := tYes) rfl scName.nd (pi_range1 rfl M.rng (pa_cons pe_int pa_nil)) (blkOk_by (own := [("_law_k", 4)]) (N := ["_law_state_here", "_law_names_here", "_law_letters", "_law_base", "_law_k", "_law_choices", "_law_free", "_law_name_here"]) (sc := defScope sName) (by decide +kernel))
          (fun _ _ _ _ _ => pg_name (i := 4) scName.nd rfl (Or.inl rfl)) (fun _ _ _ _ _ => pts_nil)
          (fun _ _ _ _ _ => pe_op op_add_str (pe_slice sl_str (pv 3) po_none (po_some pe_int)) (pe_callTy call_str_int (by rfl) M.str (by decide +kernel) (pa_cons (pe_op op_add pe_int (pv 4)) pa_nil))))))
      (pss_cons (ps_setLc (i := 6) (own := [("_law_name_here", 7)]) (g := gName 7) (by rfl) scName.nd rfl rfl (sw_true rfl rfl rfl (by decide +kernel)) (pi_list (pv 5)) (blkOk_by (own := [("_law_name_here", 7)]) (N := ["_law_state_here", "_law_names_here", "_law_letters", "_law_base", "_law_k", "_law_choices", "_law_free", "_law_name_here"]) (sc := defScope sName) (by decide +kernel))
          (fun _ _ _ _ _ => pg_name (i := 7) scName.nd rfl (Or.inl rfl)) (fun _ _ _ _ _ => pts_one (PW.pt (pw_and (pt_cmpR (r := rIn K true) op_notIn_seq (pv 7) (pv 1) (by rfl)) (pw_and1 (pt_cmpR (r := rIn K true) op_notIn_seq (pv 7) (pe_call0 GW hr rfl mW FW.kp bW .nil pass0) (by rfl))))))
          (fun _ _ _ _ _ => pv 7))
      (pss_one (ps_ret (pe_ix ix_list (pv 6) pe_int (fun _ _ => rfl)))))))), ?_⟩
    refine ⟨_, rfl, _, rfl, st, g, 26, rfl, by decide, by decide, S, fun r H1 r0 r1 S1 k1 => ?_⟩
    obtain ⟨c, hc, lc⟩ := lett_at r0 r1
    refine ⟨LETT, r, c, rfl, rfl, by decide +kernel, hc, ?_⟩
    refine ⟨(by show 6 ≤ sizeLine; decide), fun t ht => ⟨_, rfl, st, g, 6, rfl, by decide, by decide, S1.fresh ht, fun r2 H2 r20 r21 S2 k2 => ?_⟩⟩
    obtain ⟨n, hn, ln⟩ := lens_at r20 r21
    have k12 : Kp st g H H2 := k1.trans ((Kp.of (same_new ht)).trans k2)
    refine ⟨t, _, r2, _, rfl, rfl, SqT.of (k2.at (S1.fresh ht) upd_same (fun _ e => by cases e)), hn, n, rfl, by omega, by omega, ?_⟩
    refine for_range (lo := 0) (n := n) (fun i σ H3 => ∃ (b : Str) (v : Option V), σ = [some (.ref st), some (.ref nl), some (.str LETT), some (.str b), v, none, none, none] ∧ BaseOk b (i + 1) ∧ StAt st g H3 ∧ Kp st g H H3) ⟨_, none, rfl, one_base lc, S2, k12⟩ ?_ ?_
    · rintro i σ H3 hi ⟨b, v, rfl, hb, S3, k3⟩
      refine ⟨_, rfl, _, rfl, _, _, rfl, rfl, (by decide +kernel), _, rfl, st, g, 36, rfl, by decide, by decide, S3, fun r4 H4 r40 r41 S4 k4 => ?_⟩
      obtain ⟨c4, hc4, sc4⟩ := sgn_at r40 r41
      refine ⟨_, r4, c4, rfl, rfl, (by decide +kernel), hc4, b, _, rfl, rfl, ?_, ?_⟩
      · rw [str_len]
        have := hb.1
        show b.cps.toList.length + 1 ≤ sizeLine
        exact Nat.le_trans (show _ ≤ 100 by omega) (by decide)
      · exact ⟨_, _, rfl, more_base hb sc4, S4, k3.trans k4⟩
    · rintro σ H3 ⟨b, v, rfl, hb, S3, k3⟩
      have hw : Wordy b := ⟨by have := hb.1; omega, hb.2⟩
      refine ⟨_, rfl, (by show 1 ≤ sizeLine; decide), fun l1 hl1 => ?_⟩
      have s4 := same_new (o := .lst [.str b]) hl1
      refine ⟨20, rfl, by decide, by decide, fun D hD => ?_⟩
      refine lc_range (lo := 0) (n := 20) (fun i H5 => H5 = upd (upd H3 l1 (.lst [.str b])) D (.lst (((List.range i).map (variant b)).map V.str))) rfl ?_ ?_
      · rintro i H5 hi rfl
        refine ⟨rfl, ?_⟩
        refine iteT (B := True) ?_
        refine iteT ?_
        have w1 : ((10 : Int) + (0 + (i : Int))).natAbs.log2 < 1920 := by
          have e : ((10 : Int) + (0 + (i : Int))).natAbs = 10 + i := by omega
          rw [e]
          refine (Nat.log2_lt (by omega)).mpr (Nat.lt_of_lt_of_le (show 10 + i < 2 ^ 5 by omega) (Nat.pow_le_pow_right (by decide) (by decide)))
        have w2 : (variant b i).length ≤ sizeLine := by
          rw [str_len]
          exact Nat.le_trans (variant_wordy hw (List.mem_range.mpr hi)).1.1 (by decide)
        refine ⟨_, rfl, 9, rfl, _, rfl, ?_, _, rfl, _, _, rfl, rfl, _, rfl, w1, _, _, rfl, rfl, ?_, _, upd_same, ?_, ?_⟩
        · rw [str_len]
          exact Nat.le_trans hw.1 (by decide)
        · rw [str_len] at w2
          unfold variant at w2
          rw [cps_app, List.length_append] at w2
          rw [str_len, str_len]
          exact w2
        · rw [List.length_map, List.length_map, List.length_range]
          exact small1000 (by omega)
        · funext q
          by_cases hq : q = D
          · rw [hq, upd_same, upd_same, List.range_succ, List.map_append, List.map_append]
            rfl
          · rw [upd_ne hq, upd_ne hq, upd_ne hq]
      · rintro H5 rfl
        have dl : l1 ≠ D := ne_of_none (upd_same (H := H3) (o := .lst [.str b])) hD
        refine ⟨l1, D, _, _, rfl, rfl, (by rw [upd_ne dl]; exact upd_same), upd_same, (by rw [List.length_map, List.length_map, List.length_range]; show 1 + 20 ≤ sizeLine; decide), fun p hp => ?_⟩
        generalize hHb : upd _ p _ = Hb
        have sb : Same H3 Hb := by
          rw [← hHb]
          exact s4.trans ((same_new hD).trans (same_new hp))
        have hch : Hb p = some (.lst ((choices b).map V.str)) := by
          rw [← hHb, upd_same]
          rfl
        have hnl : Hb nl = some (.lst (ns.map V.str)) := sb _ _ (k3 _ _ hN n1 n2)
        refine ⟨_, rfl, p, rfl, ⟨_, SqL.of hch⟩, fun D2 hD2 => lc_list (K := K) (a := p) (xs := (choices b).map V.str) (fun i H5 => Same Hb H5 ∧ H5 D2 = some (.lst ((((choices b).take i).filter (isFree ns)).map V.str))) ⟨same_new hD2, upd_same⟩ (fun i H5 _ hq => SqL.of (hq.1 _ _ hch)) ?_ ?_⟩
        · rintro i x H5 hx ⟨s5, hD5⟩
          obtain ⟨z, hz, rfl⟩ : ∃ z, (choices b)[i]? = some z ∧ x = V.str z := by
            rw [List.getElem?_map] at hx
            cases e : (choices b)[i]? with
            | none => rw [e] at hx; cases hx
            | some z => rw [e] at hx; exact ⟨z, rfl, (Option.some.inj hx).symm⟩
          have tk : (choices b).take (i + 1) = (choices b).take i ++ [z] := by
            rw [List.take_succ, hz]
            rfl
          refine ⟨rfl, ?_⟩
          refine ⟨_, rfl, _, rfl, nl, _, rfl, .inl (SqL.of (s5 _ _ hnl)), rfl, flat_strs ns, _, rfl, ?_⟩
          refine ite2 (fun e => ?_) (fun e => ?_)
          · refine ⟨_, rfl, rfl, fun p3 hp3 => ?_⟩
            refine ⟨p3, _, rfl, .inl (SqL.of upd_same), rfl, flat_strs KWS, _, rfl, ?_⟩
            have hD6 : ∀ o, upd H5 p3 o D2 = some (.lst ((((choices b).take i).filter (isFree ns)).map V.str)) := fun o => by
              rw [upd_ne (ne_of_none hD5 hp3)]
              exact hD5
            have s6 : ∀ o, Same Hb (upd H5 p3 o) := fun o => s5.trans (same_new hp3)
            refine ite2 (fun e2 => ?_) (fun e2 => ?_)
            · have hf : isFree ns z = true := by
                rw [inV_strs] at e e2
                unfold isFree
                simpa using And.intro e e2
              refine iteT (B := True) ?_
              refine ⟨_, rfl, _, hD6 _, ?_, fun b' o' hb' => ?_, ?_⟩
              · rw [List.length_map]
                refine Nat.lt_of_le_of_lt (Nat.le_trans (List.length_filter_le _ _) (Nat.le_trans (List.length_take_le' _ _) ?_)) (show 21 < sizeLine by decide)
                show ((List.range 20).map (variant b)).length + 1 ≤ 21
                rw [List.length_map, List.length_range]
                exact Nat.le_refl _
              · rw [upd_ne (ne_of_none hb' hD2)]
                exact s6 _ _ _ hb'
              · rw [upd_same, tk, List.filter_append, List.map_append]
                have ez : ([z].filter (isFree ns)).map V.str = [V.str z] := by simp [hf]
                rw [ez]
            · refine iteF (A := True) ?_
              refine ⟨s6 _, ?_⟩
              have hf : isFree ns z = false := by
                rw [inV_strs] at e2
                unfold isFree
                simpa using fun _ => by simpa using e2
              rw [tk, List.filter_append]
              have ez : [z].filter (isFree ns) = [] := by simp [hf]
              rw [ez, List.append_nil]
              exact hD6 _
          · refine iteF (A := True) ?_
            refine ⟨s5, ?_⟩
            have hf : isFree ns z = false := by
              rw [inV_strs] at e
              unfold isFree
              simp only [Bool.and_eq_false_imp]
              intro q
              exact absurd q e
            rw [tk, List.filter_append]
            have ez : [z].filter (isFree ns) = [] := by simp [hf]
            rw [ez, List.append_nil]
            exact hD5
        · rintro H5 ⟨s5, hD5⟩
          rw [List.length_map, List.take_length] at hD5
          obtain ⟨z, r, ez, hz, hzn⟩ := free_first (ns := ns) hw (by omega)
          rw [ez] at hD5
          refine ⟨_, rfl, D2, _, _, _, rfl, rfl, SqL.of hD5, atI_nat (j := 0) rfl, ?_⟩
          have kf : Kp st g H H5 := k3.trans (Kp.of (sb.trans s5))
          obtain ⟨ms, x, y, u, a1, a2, a3, a4, a5⟩ := S3
          exact k z H5 hz hzn ⟨ms, x, y, u, s5 _ _ (sb _ _ a1), a2, s5 _ _ (sb _ _ a3), a4, a5⟩ kf
end
end K31
set_option Elab.async false
set_option linter.all false
set_option maxRecDepth 100000
set_option maxHeartbeats 4000000
/-! _law_names, _law_value, _law_table: walks. -/
namespace K31
open PySem PySem.Spec PyProof.Rows L2
/-- a value of the law's tables: a smallish int, or a text -/
def OkV (v : V) : Prop := (∃ i : Int, v = .int i ∧ -10000000000000000000000000000000 < i ∧ i < 10000000000000000000000000000000) ∨ ∃ z, v = .str z
structure TabOk (ns : List Str) (kvs : List (Key × V)) : Prop where
  nd : (kvs.map (·.1)).Nodup
  ks : ∀ kv ∈ kvs, ∃ z ∈ ns, kv.1 = .inr z
  vs : ∀ kv ∈ kvs, OkV kv.2
theorem TabOk.nil (ns : List Str) : TabOk ns [] := ⟨List.nodup_nil, fun _ h => (by cases h), fun _ h => (by cases h)⟩
theorem mem_putK {kvs : List (Key × V)} {k : Key} {v : V} {p : Key × V} (h : p ∈ putK kvs k v) : p ∈ kvs ∨ p = (k, v) := by
  unfold putK at h
  split at h
  · obtain ⟨q, hq, e⟩ := List.mem_map.mp h
    by_cases hk : q.1 = k
    · rw [if_pos hk] at e
      exact .inr (by rw [← e, hk])
    · rw [if_neg hk] at e
      exact .inl (by rw [← e]; exact hq)
  · rcases List.mem_append.mp h with h | h
    · exact .inl h
    · exact .inr (List.mem_singleton.mp h)
theorem keys_put_old {kvs : List (Key × V)} {k : Key} {v : V} : (kvs.map fun kv => if kv.1 = k then (kv.1, v) else kv).map (·.1) = kvs.map (·.1) := by
  rw [List.map_map]
  refine List.map_congr_left fun q _ => ?_
  show (if q.1 = k then (q.1, v) else q).1 = q.1
  split <;> rfl
theorem nd_put {kvs : List (Key × V)} (k : Key) (v : V) (h : (kvs.map (·.1)).Nodup) : ((putK kvs k v).map (·.1)).Nodup := by
  unfold putK
  split
  · rw [keys_put_old]
    exact h
  · rename_i q
    rw [List.map_append, List.nodup_append]
    refine ⟨h, by simp, fun a ha b hb e => q ?_⟩
    obtain ⟨p, hp, ep⟩ := List.mem_map.mp ha
    have eb : b = k := by simpa using hb
    rw [List.any_eq_true]
    refine ⟨p, hp, ?_⟩
    simp only [decide_eq_true_eq]
    exact ep.trans (e.trans eb)
theorem TabOk.put {ns : List Str} {kvs : List (Key × V)} {z : Str} {v : V} (T : TabOk ns kvs) (hz : z ∈ ns) (hv : OkV v) : TabOk ns (putK kvs (.inr z) v) :=
  ⟨nd_put _ _ T.nd, fun p hp => by
    rcases mem_putK hp with hp | rfl
    · exact T.ks p hp
    · exact ⟨z, hz, rfl⟩, fun p hp => by
    rcases mem_putK hp with hp | rfl
    · exact T.vs p hp
    · exact hv⟩
theorem TabOk.len {ns : List Str} {kvs : List (Key × V)} (T : TabOk ns kvs) : kvs.length ≤ ns.length := by
  have := pigeon (kvs.map (·.1)) (ns.map (Sum.inr : Str → Key)) T.nd fun k hk => by
    obtain ⟨p, hp, rfl⟩ := List.mem_map.mp hk
    obtain ⟨z, hz, e⟩ := T.ks p hp
    rw [e]
    exact List.mem_map_of_mem hz
  rwa [List.length_map, List.length_map] at this
def NamesOk (ns : List Str) : Prop := 1 ≤ ns.length ∧ ns.length ≤ 7 ∧ (∀ z ∈ ns, Ident z) ∧ ns.Nodup
/-- the names' list, at nl -/
structure NmAt (st g nl : Addr) (ns : List Str) (H : Hp) : Prop where
  at_ : H nl = some (.lst (ns.map V.str))
  n1 : nl ≠ st
  n2 : nl ≠ g
theorem NmAt.kp {st g nl : Addr} {ns : List Str} {H H' : Hp} (N : NmAt st g nl ns H) (k : Kp st g H H') : NmAt st g nl ns H' := ⟨k _ _ N.at_ N.n1 N.n2, N.n1, N.n2⟩
def spNames : Sp := fun vs H Q _ => ∃ (st g : Addr) (m : Nat), vs = [.ref st, .int m] ∧ 1 ≤ m ∧ m ≤ 7 ∧ StAt st g H ∧
  ∀ (l : Addr) (ns : List Str) (H' : Hp), H l = none → NmAt st g l ns H' → NamesOk ns → StAt st g H' → Kp st g H H' → Q (.ref l) H'
def spValue : Sp := fun vs H Q _ => ∃ (st g : Addr), vs = [.ref st] ∧ StAt st g H ∧ ∀ (v : V) (H' : Hp), OkV v → StAt st g H' → Kp st g H H' → Q v H'
def spTable : Sp := fun vs H Q _ => ∃ (st g nl : Addr) (ns : List Str), vs = [.ref st, .ref nl] ∧ StAt st g H ∧ NmAt st g nl ns H ∧ NamesOk ns ∧
  ∀ (p : Addr) (kvs : List (Key × V)) (H' : Hp), H p = none → H' p = some (.dK kvs) → TabOk ns kvs → StAt st g H' → Kp st g H H' → Q (.ref p) H'
def SGNS : Str := " !#&'()*+,-./09:;<=>?@AZ[]^_`az{|}~"
theorem sgns_at {r : Int} (h0 : 0 ≤ r) (h1 : r < 35) : ∃ c, atI SGNS.cps.toList r = some c := by
  obtain ⟨j, rfl⟩ : ∃ j : Nat, r = j := ⟨r.toNat, by omega⟩
  have hj : j < SGNS.cps.toList.length := by
    have e : SGNS.cps.toList.length = 35 := by decide +kernel
    omega
  exact ⟨SGNS.cps.toList[j], atI_nat (List.getElem?_eq_getElem hj)⟩
theorem sum_ones : ∀ ys : List Str, (∀ y ∈ ys, y.length = 1) → (ys.map (·.length)).sum = ys.length
  | [], _ => rfl
  | y :: ys, h => by
    rw [List.map_cons, List.sum_cons, sum_ones ys fun z hz => h z (List.mem_cons_of_mem _ hz), h y List.mem_cons_self, List.length_cons]
    omega
theorem StAt.neq {st g p : Addr} {H : Hp} (S : StAt st g H) (hp : H p = none) : p ≠ st ∧ p ≠ g := by
  obtain ⟨ns, x, y, z, h1, h2, h3, _⟩ := S
  exact ⟨fun e => (by rw [e, h1] at hp; cases hp), fun e => (by rw [e, h3] at hp; cases hp)⟩
section
variable {P : Program} {w : World} {K : PySem.W.Frag} {mg : Str → Option Value} {base : Heap}
theorem scNames : FnScope ["_law_state_here", "_law_many", "_law_names_here", "_law_k"] ["_law_state_here", "_law_many"] (defScope sNames) := ⟨rfl, rfl, rfl, by decide +kernel, rfl, by decide +kernel, by decide +kernel⟩
theorem ok_names {f fN : Addr} {fd fdN : FuncData} (F : Fun K "_law_names" "_law_names" sNames f fd) (M : Mg K mg) (GN : FnOk P w K mg base CX0 2 fN fdN ["_law_state_here", "_law_names_here"] spName) (mN : mg "_law_name" = some (.ref fN)) (kN : PySem.W.keepIn K (.ref fN) = true) (bN : Binds K fdN ["_law_state_here", "_law_names_here"] []) :
    FnOk P w K mg base CX0 3 f fd ["_law_state_here", "_law_many"] spNames := by
  refine F.ok scNames (fun vs H Q E h => ?_) (fun cdv A outer s H vs Q E hr h => ?_)
  · obtain ⟨st, g, m, rfl, _⟩ := h
    rfl
  · obtain ⟨st, g, m, rfl, m0, m1, S, k⟩ := h
    refine ⟨_, pss_cons (ps_set (i := 2) scNames.nd rfl (Or.inl rfl) (pe_lst pa_nil))
      (pss_cons (ps_for PassesOwn.never rfl (pi_range1 rfl M.rng (pa_cons (pv 1) pa_nil)) (pg_name (i := 3) scNames.nd rfl (Or.inl rfl))
        (pss_one (ps_expr (pe_bm PySem.F.plainAttrs_list PySem.F.slot_list_append PySem.F.type_list_append mt_append (pv 2) (pa_cons (pe_call GN hr rfl mN kN bN .nil pass0 (pa_cons (pv 0) (pa_cons (pv 2) pa_nil))) pa_nil)))))
      (pss_one (ps_ret (pv 2)))), ?_⟩
    refine ⟨Nat.zero_le _, fun l hl => ?_⟩
    obtain ⟨nst, ng⟩ := S.neq hl
    refine ⟨_, rfl, m, rfl, by omega, by omega, ?_⟩
    refine for_range (lo := 0) (n := m) (fun i σ H3 => ∃ (ns : List Str) (v : Option V), σ = [some (.ref st), some (.int m), some (.ref l), v] ∧ H3 l = some (.lst (ns.map V.str)) ∧ ns.length = i ∧ (∀ z ∈ ns, Ident z) ∧ ns.Nodup ∧ StAt st g H3 ∧ Kp st g H H3)
      ⟨[], none, rfl, upd_same, rfl, fun _ h => (by cases h), List.nodup_nil, S.fresh hl, Kp.of (same_new hl)⟩ ?_ ?_
    · rintro i σ H3 hi ⟨ns, v, rfl, hL, hn, hI, hd, S3, k3⟩
      refine ⟨_, rfl, .inl ⟨rfl, _, SqL.of hL⟩, _, rfl, _, rfl, st, g, l, ns, rfl, S3, hL, nst, ng, by omega, fun z H4 hz hzn S4 k4 => ?_⟩
      have hL4 := k4 _ _ hL nst ng
      refine ⟨l, _, _, rfl, rfl, hL4, (by rw [List.length_map]; exact small1000 (by omega)), ?_⟩
      refine ⟨ns ++ [z], _, rfl, ?_, ?_, ?_, ?_, S4.other nst ng, ?_⟩
      · rw [upd_same, List.map_append]
        rfl
      · rw [List.length_append, hn]
        rfl
      · intro y hy
        rcases List.mem_append.mp hy with hy | hy
        · exact hI y hy
        · rw [List.mem_singleton.mp hy]
          exact hz
      · rw [List.nodup_append]
        refine ⟨hd, by simp, fun a ha b hb e => hzn ?_⟩
        rw [← List.mem_singleton.mp hb, ← e]
        exact ha
      · intro b o hb x1 x2
        rw [upd_ne (ne_of_none hb hl)]
        exact k4 _ _ (k3 _ _ hb x1 x2) x1 x2
    · rintro σ H3 ⟨ns, v, rfl, hL, hn, hI, hd, S3, k3⟩
      exact ⟨_, rfl, k l ns H3 hl ⟨hL, nst, ng⟩ ⟨by omega, by omega, hI, hd⟩ S3 k3⟩
theorem scVal : FnScope ["_law_state_here", "_law_way", "_law_signs", "_law_k"] ["_law_state_here"] (defScope sVal) := ⟨rfl, rfl, rfl, by decide +kernel, rfl, by decide +kernel, by decide +kernel⟩
theorem ok_value {f fD : Addr} {fd fdD : FuncData} (F : Fun K "_law_value" "_law_value" sVal f fd) (M : Mg K mg) (GD : FnOk P w K mg base CX0 1 fD fdD ["_law_state_here", "_law_many"] spDraw) (mD : mg "_law_draw" = some (.ref fD)) (kD : PySem.W.keepIn K (.ref fD) = true) (bD : Binds K fdD ["_law_state_here", "_law_many"] []) :
    FnOk P w K mg base CX0 2 f fd ["_law_state_here"] spValue := by
  refine F.ok scVal (fun vs H Q E h => ?_) (fun cdv A outer s H vs Q E hr h => ?_)
  · obtain ⟨st, g, rfl, _⟩ := h
    rfl
  · obtain ⟨st, g, rfl, S, k⟩ := h
    refine ⟨_, pss_cons (ps_set (i := 1) scVal.nd rfl (Or.inl rfl) (pe_call GD hr rfl mD kD bD .nil pass0 (pa_cons (pv 0) (pa_cons pe_int pa_nil))))
      (pss_cons (ps_if (pt_cmpR op_eq (pv 1) pe_int (nomark _)) (pss_one (ps_ret (pe_op op_sub (pe_call GD hr rfl mD kD bD .nil pass0 (pa_cons (pv 0) (pa_cons pe_int pa_nil))) pe_int))) pss_nil)
      (pss_cons (ps_if (pt_cmpR op_eq (pv 1) pe_int (nomark _)) (pss_one (ps_ret (pe_op op_mul (pe_op op_sub (pe_op op_mul (pe_call GD hr rfl mD kD bD .nil pass0 (pa_cons (pv 0) (pa_cons pe_int pa_nil))) pe_int) pe_int)
          (pe_op op_add (pe_op op_pow pe_int pe_int) (pe_call GD hr rfl mD kD bD .nil pass0 (pa_cons (pv 0) (pa_cons (pe_op op_pow pe_int pe_int) pa_nil))))))) pss_nil)
      (pss_cons (ps_set (i := 2) scVal.nd rfl (Or.inr rfl) pe_str)
      (pss_one (ps_ret (pe_join pe_str
        (pe_lc (own := [("_law_k", 3)]) (g := gName 3) (tt := tYes) rfl scVal.nd (pi_range1 rfl M.rng (pa_cons (pe_call GD hr rfl mD kD bD .nil pass0 (pa_cons (pv 0) (pa_cons pe_int pa_nil))) pa_nil)) (blkOk_by (own := [("_law_k", 3)]) (N := ["_law_state_here", "_law_way", "_law_signs", "_law_k"]) (sc := defScope sVal) (by decide +kernel))
          (fun _ _ _ _ _ => pg_name (i := 3) scVal.nd rfl (Or.inl rfl)) (fun _ _ _ _ _ => pts_nil)
          (fun _ _ _ _ _ => pe_ix ix_str (pv 2) (pe_call GD hr rfl mD kD bD .nil pass0 (pa_cons (pv 0) (pa_cons pe_int pa_nil))) (fun _ _ => rfl))))))))), ?_⟩
    refine ⟨_, rfl, st, g, 4, rfl, by decide, by decide, S, fun r H1 r0 r1 S1 k1 => ?_⟩
    refine ⟨_, rfl, rfl, _, rfl, ?_⟩
    refine ite2 (fun _ => ?_) (fun _ => ?_)
    · refine ⟨_, rfl, st, g, 7, rfl, by decide, by decide, S1, fun r2 H2 r20 r21 S2 k2 => ?_⟩
      exact ⟨r2, 3, rfl, rfl, k _ _ (.inl ⟨_, rfl, by omega, by omega⟩) S2 (k1.trans k2)⟩
    refine ⟨_, rfl, rfl, _, rfl, ?_⟩
    refine ite2 (fun _ => ?_) (fun _ => ?_)
    · refine ⟨_, rfl, st, g, 2, rfl, by decide, by decide, S1, fun r2 H2 r20 r21 S2 k2 => ?_⟩
      refine ⟨r2, 2, rfl, rfl, .inr ⟨by decide, by decide⟩, r2 * 2, 1, rfl, rfl, 10, 12, rfl, rfl, ⟨by decide, by decide, by decide⟩, ?_⟩
      refine ⟨_, rfl, 10, 30, rfl, rfl, ⟨by decide, by decide, by decide⟩, st, g, _, rfl, (by decide +kernel), (by decide +kernel), S2, fun r3 H3 r30 r31 S3 k3 => ?_⟩
      refine ⟨_, r3, rfl, rfl, r2 * 2 - 1, _, rfl, rfl, .inl ⟨by omega, by omega⟩, ?_⟩
      have e12 : (10 : Int) ^ (12 : Int).toNat = 1000000000000 := by decide +kernel
      have e30 : (10 : Int) ^ (30 : Int).toNat = 1000000000000000000000000000000 := by decide +kernel
      rw [e30] at r31
      have hb : -10000000000000000000000000000000 < (r2 * 2 - 1) * ((10 : Int) ^ (12 : Int).toNat + r3) ∧ (r2 * 2 - 1) * ((10 : Int) ^ (12 : Int).toNat + r3) < 10000000000000000000000000000000 := by
        rw [e12]
        rcases (by omega : r2 = 0 ∨ r2 = 1) with rfl | rfl
        · constructor <;> omega
        · constructor <;> omega
      exact k _ _ (.inl ⟨_, rfl, hb.1, hb.2⟩) S3 (k1.trans (k2.trans k3))
    · refine ⟨⟨_, rfl⟩, _, rfl, st, g, 5, rfl, by decide, by decide, S1, fun r2 H2 r20 r21 S2 k2 => ?_⟩
      obtain ⟨n, rfl⟩ : ∃ n : Nat, r2 = n := ⟨r2.toNat, by omega⟩
      refine ⟨n, rfl, by omega, by omega, fun D hD => ?_⟩
      obtain ⟨nst, ng⟩ := S2.neq hD
      refine lc_range (lo := 0) (n := n) (fun i H5 => ∃ ys : List Str, H5 D = some (.lst (ys.map V.str)) ∧ ys.length = i ∧ (∀ y ∈ ys, y.length = 1) ∧ StAt st g H5 ∧ Kp st g H2 H5) ⟨[], upd_same, rfl, fun _ h => (by cases h), S2.fresh hD, Kp.of (same_new hD)⟩ ?_ ?_
      · rintro i H5 hi ⟨ys, hL, hn, h1, S5, k5⟩
        refine ⟨rfl, ?_⟩
        refine iteT (B := True) ?_
        refine iteT ?_
        refine ⟨_, rfl, _, rfl, st, g, 35, rfl, by decide, by decide, S5, fun r6 H6 r60 r61 S6 k6 => ?_⟩
        obtain ⟨c, hc⟩ := sgns_at r60 r61
        refine ⟨SGNS, r6, c, rfl, rfl, by decide +kernel, hc, _, k6 _ _ hL nst ng, (by rw [List.length_map]; exact small1000 (by omega)), ?_⟩
        refine ⟨ys ++ [⟨#[c]⟩], ?_, ?_, ?_, S6.other nst ng, ?_⟩
        · rw [upd_same, List.map_append]
          rfl
        · rw [List.length_append, hn]
          rfl
        · intro y hy
          rcases List.mem_append.mp hy with hy | hy
          · exact h1 y hy
          · rw [List.mem_singleton.mp hy]
            rfl
        · intro b o hb x1 x2
          rw [upd_ne (ne_of_none hb hD)]
          exact k6 _ _ (k5 _ _ hb x1 x2) x1 x2
      · rintro H5 ⟨ys, hL, hn, h1, S5, k5⟩
        refine ⟨_, D, ys, rfl, rfl, .inl (SqL.of hL), ?_, k _ _ (.inr ⟨_, rfl⟩) S5 (k1.trans (k2.trans k5))⟩
        rw [sum_ones ys h1]
        show ys.length + ys.length * 0 ≤ 16777216
        omega
theorem scTable : FnScope ["_law_state_here", "_law_names_here", "_law_table_here", "_law_k"] ["_law_state_here", "_law_names_here"] (defScope sTable) := ⟨rfl, rfl, rfl, by decide +kernel, rfl, by decide +kernel, by decide +kernel⟩
theorem nat_draw {n : Nat} (h0 : 1 ≤ n) (h1 : n ≤ 64) : (0 : Int) < n ∧ (n : Int) ≤ 10 ^ 30 := ⟨by omega, Int.le_trans (show (n : Int) ≤ 64 by omega) (by decide)⟩
theorem get_lt {α : Type} {xs : List α} {r : Int} (h0 : 0 ≤ r) (h1 : r < xs.length) : ∃ x, x ∈ xs ∧ atI xs r = some x ∧ xs[r.toNat]? = some x := by
  obtain ⟨j, rfl⟩ : ∃ j : Nat, r = j := ⟨r.toNat, by omega⟩
  have hj : j < xs.length := by omega
  exact ⟨xs[j], List.getElem_mem hj, atI_nat (List.getElem?_eq_getElem hj), by simpa using List.getElem?_eq_getElem hj⟩
theorem atI_map {α β : Type} (f : α → β) {xs : List α} {r : Int} {x : α} (h : atI xs r = some x) : atI (xs.map f) r = some (f x) := by
  unfold atI at h ⊢
  rw [List.length_map]
  cases e : ixN xs.length r with
  | none => rw [e] at h; cases h
  | some j =>
    rw [e] at h
    show (xs.map f)[j]? = _
    rw [List.getElem?_map, show xs[j]? = some x from h]
    rfl
theorem ok_table {f fD fV : Addr} {fd fdD fdV : FuncData} (F : Fun K "_law_table" "_law_table" sTable f fd) (M : Mg K mg) (GD : FnOk P w K mg base CX0 1 fD fdD ["_law_state_here", "_law_many"] spDraw) (mD : mg "_law_draw" = some (.ref fD)) (kD : PySem.W.keepIn K (.ref fD) = true) (bD : Binds K fdD ["_law_state_here", "_law_many"] [])
    (GV : FnOk P w K mg base CX0 2 fV fdV ["_law_state_here"] spValue) (mV : mg "_law_value" = some (.ref fV)) (kV : PySem.W.keepIn K (.ref fV) = true) (bV : Binds K fdV ["_law_state_here"] []) : FnOk P w K mg base CX0 3 f fd ["_law_state_here", "_law_names_here"] spTable := by
  refine F.ok scTable (fun vs H Q E h => ?_) (fun cdv A outer s H vs Q E hr h => ?_)
  · obtain ⟨st, g, nl, ns, rfl, _⟩ := h
    rfl
  · obtain ⟨st, g, nl, ns, rfl, S, N, O, k⟩ := h
    have hu := hu_of hr
    have hr1 : Room 1 _ := hr.mono (by decide)
    refine ⟨_, pss_cons (ps_set (i := 2) scTable.nd rfl (Or.inl rfl) pe_dnewK)
      (pss_cons (ps_for PassesOwn.never rfl (pi_range1 rfl M.rng (pa_cons (pe_call GD hr1 rfl mD kD bD .nil pass0 (pa_cons (pv 0) (pa_cons pe_int pa_nil))) pa_nil)) (pg_name (i := 3) scTable.nd rfl (Or.inl rfl))
        (pss_one (ps_dput hu (pv 2) (pe_ix ix_list (pv 1) (pe_call GD hr1 rfl mD kD bD .nil pass0 (pa_cons (pv 0) (pa_cons (pe_callB call_len_seq (by rfl) M.len PySem.boot_len (pa_cons (pv 1) pa_nil)) pa_nil))) (fun _ _ => rfl))
          (pe_call GV hr rfl mV kV bV .nil pass0 (pa_cons (pv 0) pa_nil)) rfl)))
      (pss_one (ps_ret (pv 2)))), ?_⟩
    intro d hd
    obtain ⟨nst, ng⟩ := S.neq hd
    have N0 : NmAt st g nl ns (upd H d (.dK [])) := N.kp (Kp.of (same_new hd))
    refine ⟨_, rfl, st, g, 5, rfl, by decide, by decide, S.fresh hd, fun r H1 r0 r1 S1 k1 => ?_⟩
    obtain ⟨n, rfl⟩ : ∃ n : Nat, r = n := ⟨r.toNat, by omega⟩
    refine ⟨n, rfl, by omega, by omega, ?_⟩
    refine for_range (lo := 0) (n := n) (fun i σ H3 => ∃ (kvs : List (Key × V)) (v : Option V), σ = [some (.ref st), some (.ref nl), some (.ref d), v] ∧ H3 d = some (.dK kvs) ∧ TabOk ns kvs ∧ kvs.length ≤ i ∧ StAt st g H3 ∧ Kp st g H H3)
      ⟨[], none, rfl, k1 _ _ upd_same nst ng, .nil ns, Nat.le_refl _, S1, (Kp.of (same_new hd)).trans k1⟩ ?_ ?_
    · rintro i σ H3 hi ⟨kvs, v, rfl, hL, T, hn, S3, k3⟩
      refine ⟨_, rfl, st, g, rfl, S3, fun v4 H4 ov S4 k4 => ?_⟩
      refine ⟨_, rfl, _, rfl, _, rfl, _, rfl, nl, _, rfl, .inl (SqL.of (N.kp (k3.trans k4)).at_), st, g, _, rfl, ?_, ?_, S4, fun r5 H5 r50 r51 S5 k5 => ?_⟩
      · rw [List.length_map]; exact (nat_draw O.1 (Nat.le_trans O.2.1 (by decide))).1
      · rw [List.length_map]; exact (nat_draw O.1 (Nat.le_trans O.2.1 (by decide))).2
      rw [List.length_map] at r51
      obtain ⟨z, hz, hz1, _⟩ := get_lt r50 r51
      refine ⟨nl, _, _, _, rfl, rfl, SqL.of (N.kp ((k3.trans k4).trans k5)).at_, atI_map V.str hz1, d, _, rfl, DPut.k (k := Sum.inr z) (k5 _ _ (k4 _ _ hL nst ng) nst ng) (small1000 (by omega)), ?_⟩
      refine ⟨_, _, rfl, upd_same, T.put hz ov, Nat.le_trans (length_putK _ _ _) (by omega), S5.other nst ng, ?_⟩
      intro b o hb x1 x2
      rw [upd_ne (ne_of_none hb hd)]
      exact k5 _ _ (k4 _ _ (k3 _ _ hb x1 x2) x1 x2) x1 x2
    · rintro σ H3 ⟨kvs, v, rfl, hL, T, hn, S3, k3⟩
      exact ⟨_, rfl, k d kvs H3 hd hL T S3 k3⟩
end
end K31
set_option Elab.async false
set_option linter.all false
set_option maxRecDepth 100000
set_option maxHeartbeats 4000000
/-! Tables: plain Lean. -/
namespace K31
open PySem PySem.Spec PyProof.Rows L2
abbrev Tb := List (Key × V)
theorem valV_some_mem {kvs : Tb} {k : Key} {v : V} (h : valV kvs k = some v) : (k, v) ∈ kvs := by
  induction kvs with
  | nil => cases h
  | cons p r ih =>
    by_cases e : p.1 = k
    · rw [valV_pos e] at h
      rw [← e, ← Option.some.inj h]
      exact List.mem_cons_self
    · rw [valV_neg e] at h
      exact List.mem_cons_of_mem _ (ih h)
theorem valV_isSome {kvs : Tb} {k : Key} : (valV kvs k).isSome = true ↔ k ∈ kvs.map (·.1) := by
  rw [← valV_any]
  simp only [List.any_eq_true, decide_eq_true_eq, List.mem_map]
theorem valV_mem {kvs : Tb} (hn : (kvs.map (·.1)).Nodup) {p : Key × V} (h : p ∈ kvs) : valV kvs p.1 = some p.2 := by
  induction kvs with
  | nil => cases h
  | cons q r ih =>
    rw [List.map_cons, List.nodup_cons] at hn
    rcases List.mem_cons.mp h with rfl | h
    · exact valV_pos rfl
    · rw [valV_neg (fun e => hn.1 (by rw [e]; exact List.mem_map_of_mem h))]
      exact ih hn.2 h
def MEq (xs ys : Tb) : Prop := ∀ k, valV xs k = valV ys k
theorem MEq.mem {xs ys : Tb} (h : MEq xs ys) (k : Key) : k ∈ xs.map (·.1) ↔ k ∈ ys.map (·.1) := by rw [← valV_isSome, ← valV_isSome, h k]
theorem perm_of {α : Type} [DecidableEq α] : ∀ {xs ys : List α}, xs.Nodup → ys.Nodup → (∀ x, x ∈ xs ↔ x ∈ ys) → xs.Perm ys
  | [], ys, _, _, h => by
    have : ys = [] := List.eq_nil_iff_forall_not_mem.mpr fun y hy => (by cases (h y).mpr hy)
    rw [this]
  | x :: xs, ys, hx, hy, h => by
    have hm : x ∈ ys := (h x).mp List.mem_cons_self
    have hx' := List.nodup_cons.mp hx
    refine List.Perm.trans (List.Perm.cons x (perm_of hx'.2 (hy.erase x) fun z => ?_)) (List.perm_cons_erase hm).symm
    rw [hy.mem_erase_iff]
    constructor
    · intro hz
      exact ⟨fun e => hx'.1 (by rw [← e]; exact hz), (h z).mp (List.mem_cons_of_mem _ hz)⟩
    · rintro ⟨n, hz⟩
      rcases List.mem_cons.mp ((h z).mpr hz) with e | e
      · exact absurd e n
      · exact e
theorem MEq.perm {xs ys : Tb} (h : MEq xs ys) (hx : (xs.map (·.1)).Nodup) (hy : (ys.map (·.1)).Nodup) : (xs.map (·.1)).Perm (ys.map (·.1)) := perm_of hx hy h.mem
theorem MEq.len {xs ys : Tb} (h : MEq xs ys) (hx : (xs.map (·.1)).Nodup) (hy : (ys.map (·.1)).Nodup) : xs.length = ys.length := by
  have := (h.perm hx hy).length_eq
  rwa [List.length_map, List.length_map] at this
theorem all_iff {ks ls : Tb} (hk : (ks.map (·.1)).Nodup) : (ks.all fun p => decide (valV ls p.1 = some p.2)) = true ↔ ∀ k v, valV ks k = some v → valV ls k = some v := by
  rw [List.all_eq_true]
  constructor
  · intro h k v e
    exact of_decide_eq_true (h _ (valV_some_mem e))
  · intro h p hp
    exact decide_eq_true (h _ _ (valV_mem hk hp))
theorem dEq_of {a a' b b' : Tb} (ha : MEq a a') (hb : MEq b b') (na : (a.map (·.1)).Nodup) (na' : (a'.map (·.1)).Nodup) (nb : (b.map (·.1)).Nodup) (nb' : (b'.map (·.1)).Nodup) : dEq a b = dEq a' b' := by
  unfold dEq
  rw [ha.len na na', hb.len nb nb']
  congr 1
  rw [Bool.eq_iff_iff, all_iff na, all_iff na']
  constructor
  · intro h k v e
    rw [← hb k]
    exact h k v (by rw [ha k]; exact e)
  · intro h k v e
    rw [hb k]
    exact h k v (by rw [← ha k]; exact e)
/-! ### fold of puts -/
theorem merge_snoc (xs ys : Tb) (p : Key × V) : mergeK xs (ys ++ [p]) = putK (mergeK xs ys) p.1 p.2 := by
  unfold mergeK
  rw [List.foldl_append]
  rfl
theorem nd_merge : ∀ {ys xs : Tb}, (xs.map (·.1)).Nodup → ((mergeK xs ys).map (·.1)).Nodup
  | [], _, h => h
  | p :: ys, xs, h => nd_merge (ys := ys) (xs := putK xs p.1 p.2) (nd_put _ _ h)
theorem val_merge : ∀ {ys xs : Tb} (k : Key), (ys.map (·.1)).Nodup → valV (mergeK xs ys) k = match valV ys k with
    | some v => some v
    | none => valV xs k
  | [], _, _, _ => rfl
  | p :: ys, xs, k, hn => by
    rw [List.map_cons, List.nodup_cons] at hn
    show valV (mergeK (putK xs p.1 p.2) ys) k = _
    rw [val_merge k hn.2, valV_put]
    by_cases e : k = p.1
    · have q : valV ys k = none := by
        cases z : valV ys k with
        | none => rfl
        | some v => exact absurd (valV_isSome.mp (by rw [z]; rfl)) (by rw [e]; exact hn.1)
      rw [q, valV_pos e.symm, if_pos e]
    · rw [valV_neg (fun z => e z.symm), if_neg e]
theorem mem_merge : ∀ {ys xs : Tb} {p : Key × V}, p ∈ mergeK xs ys → p ∈ xs ∨ p ∈ ys
  | [], _, _, h => .inl h
  | q :: ys, xs, p, h => by
    rcases mem_merge (ys := ys) (xs := putK xs q.1 q.2) h with h | h
    · rcases mem_putK h with h | h
      · exact .inl h
      · exact .inr (by rw [h]; exact List.mem_cons_self)
    · exact .inr (List.mem_cons_of_mem _ h)
theorem val_merge0 {ys : Tb} (hn : (ys.map (·.1)).Nodup) : MEq (mergeK [] ys) ys := fun k => by
  rw [val_merge k hn]
  cases valV ys k <;> rfl
theorem TabOk.merge {ns : List Str} {xs ys : Tb} (X : TabOk ns xs) (Y : TabOk ns ys) : TabOk ns (mergeK xs ys) :=
  ⟨nd_merge X.nd, fun p hp => (mem_merge hp).elim (X.ks p) (Y.ks p), fun p hp => (mem_merge hp).elim (X.vs p) (Y.vs p)⟩
theorem MEq.merge {a a' b b' : Tb} (ha : MEq a a') (hb : MEq b b') (nb : (b.map (·.1)).Nodup) (nb' : (b'.map (·.1)).Nodup) : MEq (mergeK a b) (mergeK a' b') := fun k => by
  rw [val_merge k nb, val_merge k nb', hb k, ha k]
/-! ### a part by the keys -/
theorem nd_filter {xs : Tb} (f : Key → Bool) (h : (xs.map (·.1)).Nodup) : ((xs.filter fun p => f p.1).map (·.1)).Nodup :=
  List.Nodup.sublist (List.Sublist.map _ List.filter_sublist) h
theorem val_filter (f : Key → Bool) (k : Key) : ∀ xs : Tb, valV (xs.filter fun p => f p.1) k = if f k = true then valV xs k else none
  | [] => by simp [valV_nil]
  | p :: xs => by
    by_cases e : p.1 = k
    · by_cases hf : f k = true
      · rw [List.filter_cons_of_pos (by rw [e]; exact hf), valV_pos e, valV_pos e, if_pos hf]
      · rw [List.filter_cons_of_neg (by rw [e]; exact hf), val_filter f k xs, if_neg hf, if_neg hf]
    · rw [valV_neg e, ← val_filter f k xs]
      by_cases hf : f p.1 = true
      · rw [List.filter_cons_of_pos (p := fun p => f p.1) (a := p) hf, valV_neg e]
      · rw [List.filter_cons_of_neg (p := fun p => f p.1) (a := p) hf]
theorem MEq.part {a a' : Tb} (f : Key → Bool) (ha : MEq a a') : MEq (a.filter fun p => f p.1) (a'.filter fun p => f p.1) := fun k => by
  rw [val_filter, val_filter, ha k]
theorem TabOk.part {ns : List Str} {xs : Tb} (f : Key → Bool) (X : TabOk ns xs) : TabOk ns (xs.filter fun p => f p.1) :=
  ⟨nd_filter f X.nd, fun p hp => X.ks p (List.mem_filter.mp hp).1, fun p hp => X.vs p (List.mem_filter.mp hp).1⟩
theorem MEq.trans {a b c : Tb} (h : MEq a b) (g : MEq b c) : MEq a c := fun k => (h k).trans (g k)
theorem MEq.symm {a b : Tb} (h : MEq a b) : MEq b a := fun k => (h k).symm
theorem MEq.refl (a : Tb) : MEq a a := fun _ => rfl
/-! ### by rising names -/
theorem rising_pw : ∀ (l : List Str) (p : Str), risingS p l = true → (p :: l).Pairwise fun a b => a.cps.toList ≤ b.cps.toList
  | [], p, _ => by simp
  | x :: l, p, h => by
    unfold risingS at h
    rw [Bool.and_eq_true] at h
    have h2 := rising_pw l x h.2
    have hpx : p.cps.toList ≤ x.cps.toList := by
      have := h.1
      rw [ltCps_eq] at this
      simp at this
      exact this
    rw [List.pairwise_cons]
    refine ⟨fun y hy => ?_, h2⟩
    rcases List.mem_cons.mp hy with rfl | hy
    · exact hpx
    · exact List.le_trans hpx ((List.pairwise_cons.mp h2).1 y hy)
theorem sorted_pw {l : List Str} (h : sortedS l = true) : l.Pairwise fun a b => a.cps.toList ≤ b.cps.toList := by
  cases l with
  | nil => exact .nil
  | cons x l => exact rising_pw l x h
theorem pw_uniq : ∀ {ys zs : List Str}, (ys.Pairwise fun a b => a.cps.toList ≤ b.cps.toList) → (zs.Pairwise fun a b => a.cps.toList ≤ b.cps.toList) → ys.Perm zs → ys = zs
  | [], zs, _, _, h => h.nil_eq
  | y :: ys, [], _, _, h => by cases h.length_eq
  | y :: ys, z :: zs, hy, hz, h => by
    have e : y = z := by
      have m1 := h.mem_iff.mp (List.mem_cons_self (a := y) (l := ys))
      have m2 := h.mem_iff.mpr (List.mem_cons_self (a := z) (l := zs))
      rcases List.mem_cons.mp m1 with e | m1
      · exact e
      · rcases List.mem_cons.mp m2 with e | m2
        · exact e.symm
        · exact str_ext (List.le_antisymm ((List.pairwise_cons.mp hy).1 z m2) ((List.pairwise_cons.mp hz).1 y m1))
    subst e
    rw [pw_uniq (List.pairwise_cons.mp hy).2 (List.pairwise_cons.mp hz).2 h.cons_inv]
theorem sorted_uniq {ys zs : List Str} (hy : sortedS ys = true) (hz : sortedS zs = true) (h : ys.Perm zs) : ys = zs := pw_uniq (sorted_pw hy) (sorted_pw hz) h
/-- the pairs of kvs at the names ys -/
def rows (kvs : Tb) (ys : List Str) : Tb := ys.map fun z => ((.inr z : Key), (valV kvs (.inr z)).getD .non)
/-- es: what kvs holds, by rising names -/
def Asc (kvs es : Tb) : Prop := ∃ ys : List Str, sortedS ys = true ∧ (ys.map (Sum.inr : Str → Key)).Perm (kvs.map (·.1)) ∧ es = rows kvs ys
theorem rows_keys (kvs : Tb) (ys : List Str) : (rows kvs ys).map (·.1) = ys.map (Sum.inr : Str → Key) := by
  unfold rows
  rw [List.map_map]
  rfl
theorem rows_val {kvs : Tb} {z : Str} : ∀ {ys : List Str}, z ∈ ys → valV (rows kvs ys) (.inr z) = some ((valV kvs (.inr z)).getD .non)
  | y :: ys, h => by
    by_cases e : y = z
    · subst e
      exact valV_pos rfl
    · show valV ((Sum.inr y, _) :: rows kvs ys) _ = _
      rw [valV_neg (fun q => e (Sum.inr.inj q))]
      exact rows_val ((List.mem_cons.mp h).resolve_left fun q => e q.symm)
theorem Asc.meq {kvs es : Tb} (h : Asc kvs es) : MEq es kvs := fun k => by
  obtain ⟨ys, _, hp, rfl⟩ := h
  cases e : valV kvs k with
  | some v =>
    have m := hp.mem_iff.mpr (valV_isSome.mp (by rw [e]; rfl : (valV kvs k).isSome = true))
    obtain ⟨z, hz, rfl⟩ := List.mem_map.mp m
    rw [rows_val hz, e]
    rfl
  | none =>
    cases q : valV (rows kvs ys) k with
    | none => rfl
    | some v =>
      have m := valV_isSome.mp (by rw [q]; rfl : (valV (rows kvs ys) k).isSome = true)
      rw [rows_keys] at m
      have := valV_isSome.mpr (hp.mem_iff.mp m)
      rw [e] at this
      cases this
theorem Asc.nd {kvs es : Tb} (h : Asc kvs es) (hn : (kvs.map (·.1)).Nodup) : (es.map (·.1)).Nodup := by
  obtain ⟨ys, _, hp, rfl⟩ := h
  rw [rows_keys]
  exact hp.nodup_iff.mpr hn
theorem Asc.tab {ns : List Str} {kvs es : Tb} (h : Asc kvs es) (T : TabOk ns kvs) : TabOk ns es := by
  refine ⟨h.nd T.nd, fun p hp => ?_, fun p hp => ?_⟩
  all_goals
    have e := h.meq p.1
    rw [valV_mem (h.nd T.nd) hp] at e
    have m := valV_some_mem e.symm
  · exact T.ks _ m
  · exact T.vs _ m
theorem Asc.of {m o es : Tb} (h : Asc m es) (e : MEq m o) (hm : (m.map (·.1)).Nodup) (ho : (o.map (·.1)).Nodup) : Asc o es := by
  obtain ⟨ys, h1, h2, rfl⟩ := h
  refine ⟨ys, h1, h2.trans (e.perm hm ho), ?_⟩
  unfold rows
  exact List.map_congr_left fun z _ => by rw [e]
theorem perm_inr {ys zs : List Str} (h : (ys.map (Sum.inr : Str → Key)).Perm (zs.map Sum.inr)) : ys.Perm zs := by
  have q := h.filterMap fun k : Key => match k with
    | .inr z => some z
    | .inl _ => none
  have e : ∀ l : List Str, (l.map (Sum.inr : Str → Key)).filterMap (fun k : Key => match k with
    | .inr z => some z
    | .inl _ => none) = l := fun l => by
    induction l with
    | nil => rfl
    | cons z l ih => rw [List.map_cons, List.filterMap_cons, ih]
  rw [e, e] at q
  exact q
theorem Asc.uniq {kvs es : Tb} (h : Asc kvs es) {ys : List Str} (hs : sortedS ys = true) (hp : (ys.map (Sum.inr : Str → Key)).Perm (kvs.map (·.1))) : es = rows kvs ys := by
  obtain ⟨zs, h1, h2, rfl⟩ := h
  have e : ys = zs := sorted_uniq hs h1 (perm_inr (hp.trans h2.symm))
  rw [e]
theorem OkV.flat {v : V} (h : OkV v) : flatV v = true := by
  rcases h with ⟨i, rfl, _⟩ | ⟨z, rfl⟩ <;> rfl
theorem OkV.fl2 {v : V} (h : OkV v) : fl2 v = true := by
  rcases h with ⟨i, rfl, _⟩ | ⟨z, rfl⟩ <;> rfl
end K31
set_option Elab.async false
set_option linter.all false
set_option maxRecDepth 100000
set_option maxHeartbeats 4000000
/-! is_word, is_identifier, is_value, check_pair, ascending: walks. -/
namespace K31
open PySem PySem.Spec PyProof.Rows L2
/-- a dict comprehension over a walk -/
theorem dc_it {J : It} {n : Nat} {G : Hp → Prop} {Y : Nat → Hp → V → Hp → Prop} (w : Walk J n G Y) {g : TG} {tt : TT} {tk tv : TE} {vs : List Nat} {σ : L2.St} {H1 : Hp} {D : Addr} {Qd : Hp → Prop} (Pv : Nat → Hp → Prop) (h0 : Pv 0 (upd H1 D (.dK []))) (hG : ∀ i H, i ≤ n → Pv i H → G H)
    (hs : ∀ i x H H', i < n → Pv i H → Y i H x H' → g x (wipe σ vs) H' fun σ2 H2 => wipe σ2 vs = wipe σ vs ∧ tt σ2 H2 fun b H3 =>
      if b = true then tk σ2 H3 fun y H4 => tv σ2 H4 fun z H5 => ∃ kvs k, y = kV k ∧ H5 D = some (.dK kvs) ∧ kvs.length < sizeLine ∧ Pv (i + 1) (upd H5 D (.dK (putK kvs k z))) else Pv (i + 1) H3) (hd : ∀ H, Pv n H → Qd H) :
    ∃ W : Nat → Nat → Hp → Prop, (∃ m, W 0 m (upd H1 D (.dK []))) ∧ ∀ i m H, W i m H →
      (J.stop i H ∧ Qd H) ∨ (J.go i H ∧ ∃ Nx : Hp → Prop, (∀ H', Nx H' → ∃ m', m' < m ∧ W (i + 1) m' H') ∧ ∀ x H', J.yld i H x H' → g x (wipe σ vs) H' fun σ2 H2 => wipe σ2 vs = wipe σ vs ∧ tt σ2 H2 fun b H3 =>
        if b = true then tk σ2 H3 fun y H4 => tv σ2 H4 fun z H5 => ∃ kvs k, y = kV k ∧ H5 D = some (.dK kvs) ∧ kvs.length < sizeLine ∧ Nx (upd H5 D (.dK (putK kvs k z))) else Nx H3) := by
  refine ⟨fun i m H => m = n - i ∧ i ≤ n ∧ Pv i H, ⟨n, by simp, Nat.zero_le _, h0⟩, ?_⟩
  rintro i m H ⟨rfl, hi, p⟩
  have q := hG i H hi p
  by_cases hlt : i < n
  · exact .inr ⟨w.goes i H hlt q, Pv (i + 1), fun H' p' => ⟨n - (i + 1), by omega, rfl, hlt, p'⟩, fun x H' y => hs i x H H' hlt p (w.yields i H x H' hlt q y)⟩
  · have e : i = n := by omega
    subst e
    exact .inl ⟨w.stops H q, hd H p⟩
def spWord : Sp := fun vs H Q _ => ∃ z, vs = [.str z] ∧ Wordy z ∧ ∀ H', Same H H' → Q (.bl true) H'
def spIdent : Sp := fun vs H Q _ => ∃ z, vs = [.str z] ∧ Ident z ∧ ∀ H', Same H H' → Q (.bl true) H'
def spIsVal : Sp := fun vs H Q _ => ∃ v, vs = [v] ∧ OkV v ∧ Q (.bl true) H
def spPair : Sp := fun vs H Q _ => ∃ z v, vs = [.str z, v] ∧ Ident z ∧ OkV v ∧ ∀ H', Same H H' → Q .non H'
def spAsc : Sp := fun vs H Q _ => ∃ (d : Addr) (kvs : Tb) (ns : List Str), vs = [.ref d] ∧ H d = some (.dK kvs) ∧ TabOk ns kvs ∧ NamesOk ns ∧
  ∀ (p : Addr) (es : Tb) (H' : Hp), H p = none → H' p = some (.dK es) → Asc kvs es → Same H H' → Q (.ref p) H'
theorem sgn_dec {c : Nat} (h : SgnOk c) : (if decide (c ∈ LETT.cps.toList) = true then true else decide (c ∈ DIGT.cps.toList)) = true := by
  rcases h with h | h
  · rw [decide_eq_true h]; rfl
  · rw [decide_eq_true h]; split <;> rfl
section
variable {P : Program} {w : World} {K : PySem.W.Frag} {mg : Str → Option Value} {base : Heap}
theorem scWord : FnScope ["value", "sign"] ["value"] (defScope sWord) := ⟨rfl, rfl, rfl, by decide +kernel, rfl, by decide +kernel, by decide +kernel⟩
theorem ok_word {f : Addr} {fd : FuncData} (F : Fun K "is_word" "is_word" sWord f fd) (M : Mg K mg) : FnOk P w K mg base CX0 1 f fd ["value"] spWord := by
  refine F.ok scWord (fun vs H Q E h => ?_) (fun cdv A outer s H vs Q E hr h => ?_)
  · obtain ⟨z, rfl, _⟩ := h
    rfl
  · obtain ⟨z, rfl, W, k⟩ := h
    obtain ⟨tl, mL⟩ := M.lett
    obtain ⟨td, mD⟩ := M.digt
    obtain ⟨tn, mN⟩ := M.long
    refine ⟨_, pss_cons (ps_if (PW.pt (pw_or (pt_not (pt_val (pe_callB call_isi (by rfl) M.isi (by decide +kernel) (pa_cons (pv 0) (pa_cons (pe_bltn (v := .ty "str") (by rfl) M.str (by decide +kernel) rfl) pa_nil)))))
        (pw_or1 (pt_not (pt_chain op_le op_le pe_int (pe_callB call_len_str (by rfl) M.len PySem.boot_len (pa_cons (pv 0) pa_nil)) (pe_glob (v := .int 12) rfl mN ⟨_, rfl⟩)))))) (pss_one (ps_ret pe_bl)) pss_nil)
      (pss_one (ps_ret (pe_callB (cr_all rfl) (by rfl) M.all (by decide +kernel) (pa_cons
        (pe_lc (own := [("sign", 1)]) (g := gName 1) (tt := tYes) rfl scWord.nd (pi_str (pv 0)) (blkOk_by (own := [("sign", 1)]) (N := ["value", "sign"]) (sc := defScope sWord) (by decide +kernel))
          (fun _ _ _ _ _ => pg_name (i := 1) scWord.nd rfl (Or.inl rfl)) (fun _ _ _ _ _ => pts_nil)
          (fun _ _ _ _ _ => pe_or (pe_cmpR op_in_sign (pv 1) (pe_glob (v := .str LETT) rfl mL ⟨_, rfl⟩) (by rfl)) (pe_one (pe_cmpR op_in_sign (pv 1) (pe_glob (v := .str DIGT) rfl mD ⟨_, rfl⟩) (by rfl))))) pa_nil)))), ?_⟩
    have hl := str_len z
    have hl0 : 1 ≤ z.length := by
      obtain ⟨_, ⟨c, r, e, _⟩, _⟩ := W
      rw [hl, e]
      exact Nat.succ_le_succ (Nat.zero_le _)
    have hl1 : z.length ≤ 12 := by rw [hl]; exact W.1
    have hls : z.length ≤ sizeLine := Nat.le_trans hl1 (by decide)
    refine ⟨_, rfl, _, _, _, _, true, rfl, .ty "str", .base (.str z), kit_ty (by decide +kernel), true, rfl, ?_⟩
    refine iteF (A := True) ?_
    refine ⟨_, rfl, z, rfl, hls, _, _, rfl, rfl, _, rfl, ?_⟩
    refine ite2 (fun _ => ?_) (fun e => absurd (decide_eq_true (show (1 : Int) ≤ z.length by omega)) e)
    refine ⟨_, _, rfl, rfl, _, rfl, ?_⟩
    refine ite2 (fun e => ?_) (fun _ => ?_)
    · rw [decide_eq_true (show (z.length : Int) ≤ 12 by omega)] at e
      cases e
    refine ⟨_, rfl, z, rfl, fun D hD => ?_⟩
    refine lc_it walk_str (fun i H5 => Same H H5 ∧ H5 D = some (.lst ((List.replicate i true).map V.bl))) ⟨same_new hD, upd_same⟩ (fun _ _ _ _ => trivial) ?_ ?_
    · rintro i x H5 H6 hi ⟨s5, hD5⟩ ⟨rfl, c, hc, rfl⟩
      refine ⟨rfl, ?_⟩
      refine iteT (B := True) ?_
      refine iteT ?_
      have hcm : c ∈ z.cps.toList := by
        have := Array.mem_of_getElem? hc
        simpa using this
      have hsd := W.2.2 c hcm
      have fin : ∃ acc, H6 D = some (.lst acc) ∧ acc.length < sizeLine ∧ Same H (upd H6 D (.lst (acc ++ [.bl true]))) ∧ upd H6 D (.lst (acc ++ [.bl true])) D = some (.lst ((List.replicate (i + 1) true).map V.bl)) := by
        refine ⟨_, hD5, ?_, fun b o hb => ?_, ?_⟩
        · rw [List.length_map, List.length_replicate]
          have : z.cps.size = z.length := rfl
          exact small1000 (by omega)
        · rw [upd_ne (ne_of_none hb hD)]
          exact s5 _ _ hb
        · rw [upd_same, List.replicate_succ', List.map_append]
          rfl
      refine ⟨_, rfl, c, LETT, rfl, rfl, _, rfl, ?_⟩
      refine ite2 (fun _ => fin) (fun e => ?_)
      refine ⟨_, rfl, c, DIGT, rfl, rfl, ?_⟩
      have : decide (c ∈ DIGT.cps.toList) = true := by
        rcases hsd with h | h
        · exact absurd (decide_eq_true h) e
        · exact decide_eq_true h
      rw [this]
      exact fin
    · rintro H5 ⟨s5, hD5⟩
      refine ⟨D, List.replicate z.cps.size true, rfl, SqL.of hD5, ?_⟩
      have e : (List.replicate z.cps.size true).all id = true := by simp
      rw [e]
      exact k H5 s5
theorem scIdent : FnScope ["value"] ["value"] (defScope sIdent) := ⟨rfl, rfl, rfl, by decide +kernel, rfl, by decide +kernel, by decide +kernel⟩
theorem ok_ident {f fW : Addr} {fd fdW : FuncData} (F : Fun K "is_identifier" "is_identifier" sIdent f fd) (M : Mg K mg) (GW : FnOk P w K mg base CX0 1 fW fdW ["value"] spWord) (mW : mg "is_word" = some (.ref fW)) (kW : PySem.W.keepIn K (.ref fW) = true) (bW : Binds K fdW ["value"] []) :
    FnOk P w K mg base CX0 2 f fd ["value"] spIdent := by
  refine F.ok scIdent (fun vs H Q E h => ?_) (fun cdv A outer s H vs Q E hr h => ?_)
  · obtain ⟨z, rfl, _⟩ := h
    rfl
  · obtain ⟨z, rfl, W, k⟩ := h
    obtain ⟨tl, mL⟩ := M.lett
    obtain ⟨ka, mK, kt⟩ := M.kept
    refine ⟨_, pss_one (ps_ret (pe_and (pe_call GW hr rfl mW kW bW .nil pass0 (pa_cons (pv 0) pa_nil))
      (pe_and (pe_cmpR op_in_sign (pe_ix ix_str (pv 0) pe_int (fun _ _ => rfl)) (pe_glob (v := .str LETT) rfl mL ⟨_, rfl⟩) (by rfl))
        (pe_one (pe_cmpR op_notIn_seq (pv 0) (pe_glob (v := .ref ka) rfl mK rfl) (by rfl)))))), ?_⟩
    obtain ⟨⟨w1, ⟨c, r, w2, w3⟩, w4⟩, w5⟩ := id W
    refine ⟨_, rfl, z, rfl, W.1, fun H1 s1 => ⟨true, rfl, ?_⟩⟩
    refine iteT (B := True) ?_
    refine ⟨_, rfl, z, _, c, rfl, rfl, Nat.le_trans (by rw [str_len]; exact w1) (show 12 ≤ sizeLine by decide), atI_nat (j := 0) (by rw [w2]; rfl), c, LETT, rfl, rfl, _, rfl, ?_⟩
    refine ite2 (fun _ => ?_) (fun e => absurd (decide_eq_true (show c ∈ LETT.cps.toList from w3)) e)
    refine ⟨_, rfl, ka, _, rfl, .inr (kt.sq H1), rfl, flat_strs KEPTS, ?_⟩
    have e : inV (.str z) (KEPTS.map V.str) = false := by
      rw [inV_strs, List.any_eq_false]
      intro y hy q
      exact w5 (by rw [← beq_iff_eq.mp q]; exact hy)
    rw [e]
    exact k H1 s1
theorem scIsVal : FnScope ["value"] ["value"] (defScope sValue) := ⟨rfl, rfl, rfl, by decide +kernel, rfl, by decide +kernel, by decide +kernel⟩
theorem ok_isval {f : Addr} {fd : FuncData} (F : Fun K "is_value" "is_value" sValue f fd) (M : Mg K mg) : FnOk P w K mg base CX0 1 f fd ["value"] spIsVal := by
  refine F.ok scIsVal (fun vs H Q E h => ?_) (fun cdv A outer s H vs Q E hr h => ?_)
  · obtain ⟨v, rfl, _⟩ := h
    rfl
  · obtain ⟨v, rfl, O, k⟩ := h
    obtain ⟨B, tb, mB, hB⟩ := M.beyo
    refine ⟨_, pss_cons (ps_if (pt_val (pe_callB call_isi (by rfl) M.isi (by decide +kernel) (pa_cons (pv 0) (pa_cons (pe_bltn (v := .ty "bool") (by rfl) M.boo (by decide +kernel) rfl) pa_nil)))) (pss_one (ps_ret pe_bl)) pss_nil)
      (pss_cons (ps_if (pt_val (pe_callB call_isi (by rfl) M.isi (by decide +kernel) (pa_cons (pv 0) (pa_cons (pe_bltn (v := .ty "int") (by rfl) M.int (by decide +kernel) rfl) pa_nil)))) (pss_one (ps_ret (pe_cmpR op_lt (pe_callB call_abs (by rfl) M.abs (by decide +kernel) (pa_cons (pv 0) pa_nil)) (pe_glob (v := .int B) rfl mB ⟨_, rfl⟩) (nomark _)))) pss_nil)
      (pss_one (ps_ret (pe_callB call_isi (by rfl) M.isi (by decide +kernel) (pa_cons (pv 0) (pa_cons (pe_bltn (v := .ty "str") (by rfl) M.str (by decide +kernel) rfl) pa_nil)))))), ?_⟩
    rcases O with ⟨i, rfl, h1, h2⟩ | ⟨z, rfl⟩
    · refine ⟨_, rfl, _, _, _, _, false, rfl, .ty "bool", .base (.int i), kit_ty (by decide +kernel), false, rfl, ?_⟩
      refine iteF (A := True) ?_
      refine ⟨_, rfl, _, _, _, _, true, rfl, .ty "int", .base (.int i), kit_ty (by decide +kernel), true, rfl, ?_⟩
      refine iteT (B := True) ?_
      refine ⟨_, rfl, i, rfl, _, B, rfl, rfl, ?_⟩
      have e : decide ((if i < 0 then -i else i) < B) = true := by
        have hb : (10 : Int) ^ 31 = 10000000000000000000000000000000 := by decide +kernel
        rw [hb] at hB
        refine decide_eq_true ?_
        split <;> omega
      show Q (.bl (decide ((if i < 0 then -i else i) < B))) H
      rw [e]
      exact k
    · refine ⟨_, rfl, _, _, _, _, false, rfl, .ty "bool", .base (.str z), kit_ty (by decide +kernel), false, rfl, ?_⟩
      refine iteF (A := True) ?_
      refine ⟨_, rfl, _, _, _, _, false, rfl, .ty "int", .base (.str z), kit_ty (by decide +kernel), false, rfl, ?_⟩
      refine iteF (A := True) ?_
      exact ⟨_, rfl, _, _, _, _, true, rfl, .ty "str", .base (.str z), kit_ty (by decide +kernel), k⟩
theorem scPair : FnScope ["name", "value"] ["name", "value"] (defScope sPair) := ⟨rfl, rfl, rfl, by decide +kernel, rfl, by decide +kernel, by decide +kernel⟩
theorem ok_pair {f fI fV : Addr} {fd fdI fdV : FuncData} (F : Fun K "check_pair" "check_pair" sPair f fd) (GI : FnOk P w K mg base CX0 2 fI fdI ["value"] spIdent) (mI : mg "is_identifier" = some (.ref fI)) (kI : PySem.W.keepIn K (.ref fI) = true) (bI : Binds K fdI ["value"] [])
    (GV : FnOk P w K mg base CX0 1 fV fdV ["value"] spIsVal) (mV : mg "is_value" = some (.ref fV)) (kV : PySem.W.keepIn K (.ref fV) = true) (bV : Binds K fdV ["value"] []) : FnOk P w K mg base CX0 3 f fd ["name", "value"] spPair := by
  refine F.ok scPair (fun vs H Q E h => ?_) (fun cdv A outer s H vs Q E hr h => ?_)
  · obtain ⟨z, v, rfl, _⟩ := h
    rfl
  · obtain ⟨z, v, rfl, W, O, k⟩ := h
    have hr1 : Room 1 _ := hr.mono (by decide)
    refine ⟨_, pss_cons (ps_if (pt_not (pt_val (pe_call GI hr rfl mI kI bI .nil pass0 (pa_cons (pv 0) pa_nil)))) pss_never pss_nil)
      (pss_one (ps_if (pt_not (pt_val (pe_call GV hr1 rfl mV kV bV .nil pass0 (pa_cons (pv 1) pa_nil)))) pss_never pss_nil)), ?_⟩
    refine ⟨_, rfl, z, rfl, W, fun H1 s1 => ⟨true, rfl, ?_⟩⟩
    refine iteF (A := True) ?_
    refine ⟨_, rfl, v, rfl, O, true, rfl, ?_⟩
    refine iteF (A := True) ?_
    exact k H1 s1
/-! ascending -/
def knames (kvs : Tb) : List Str := kvs.filterMap fun p => match p.1 with
  | .inr z => some z
  | .inl _ => none
theorem knames_eq {ns : List Str} : ∀ {kvs : Tb}, (∀ kv ∈ kvs, ∃ z ∈ ns, kv.1 = .inr z) → (kvs.map fun kv => kV kv.1) = (knames kvs).map V.str ∧ (knames kvs).map (Sum.inr : Str → Key) = kvs.map (·.1)
  | [], _ => ⟨rfl, rfl⟩
  | p :: r, h => by
    obtain ⟨z, _, e⟩ := h p List.mem_cons_self
    obtain ⟨h1, h2⟩ := knames_eq (kvs := r) fun q hq => h q (List.mem_cons_of_mem _ hq)
    have e0 : knames (p :: r) = z :: knames r := by
      unfold knames
      rw [List.filterMap_cons, e]
    rw [e0, List.map_cons, List.map_cons, List.map_cons, List.map_cons, h1, h2, e]
    exact ⟨rfl, rfl⟩
theorem rows_snoc {kvs : Tb} {ys : List Str} {i : Nat} {z : Str} {v : V} (hn : ys.Nodup) (hz : ys[i]? = some z) (hv : valV kvs (.inr z) = some v) : putK (rows kvs (ys.take i)) (.inr z) v = rows kvs (ys.take (i + 1)) := by
  have hq : z ∉ ys.take i := by
    intro m
    have e : ys = ys.take i ++ ys.drop i := (List.take_append_drop i ys).symm
    rw [e, List.nodup_append] at hn
    have hd : z ∈ ys.drop i := by
      have : (ys.drop i)[0]? = some z := by rw [List.getElem?_drop]; simpa using hz
      exact List.mem_of_getElem? this
    exact hn.2.2 z m z hd rfl
  have hne : valV (rows kvs (ys.take i)) (.inr z) = none := by
    cases e : valV (rows kvs (ys.take i)) (.inr z) with
    | none => rfl
    | some u =>
      have m := valV_isSome.mp (by rw [e]; rfl : (valV (rows kvs (ys.take i)) (.inr z : Key)).isSome = true)
      rw [rows_keys] at m
      obtain ⟨y, hy, ey⟩ := List.mem_map.mp m
      rw [Sum.inr.inj ey] at hy
      exact absurd hy hq
  rw [putK_new _ hne, List.take_succ, hz]
  unfold rows
  rw [List.map_append]
  show _ = _ ++ [(_, (valV kvs (.inr z)).getD .non)]
  rw [hv]
  rfl
theorem scAsc : FnScope ["table", "name"] ["table"] (defScope sAsc) := ⟨rfl, rfl, rfl, by decide +kernel, rfl, by decide +kernel, by decide +kernel⟩
theorem ok_asc {f : Addr} {fd : FuncData} (F : Fun K "ascending" "ascending" sAsc f fd) (M : Mg K mg) : FnOk P w K mg base CX0 1 f fd ["table"] spAsc := by
  refine F.ok scAsc (fun vs H Q E h => ?_) (fun cdv A outer s H vs Q E hr h => ?_)
  · obtain ⟨d, kvs, ns, rfl, _⟩ := h
    rfl
  · obtain ⟨d, kvs, ns, rfl, hd, T, O, k⟩ := h
    have hu := hu_of hr
    refine ⟨_, pss_one (ps_ret (pe_dc (own := [("name", 1)]) (g := gName 1) (tt := tYes) rfl scAsc.nd (pi_list (pe_callB cr_sortedS (by rfl) M.srt (by decide +kernel) (pa_cons (pe_callTy (call_listD rfl) (by rfl) M.lst (by decide +kernel) (pa_cons (pv 0) pa_nil)) pa_nil)))
      (blkOk_by (own := [("name", 1)]) (N := ["table", "name"]) (sc := defScope sAsc) (by decide +kernel))
      (fun _ _ _ _ _ => pg_name (i := 1) scAsc.nd rfl (Or.inl rfl)) (fun _ _ _ _ _ => pts_nil) (fun _ _ _ _ _ => pv 1) (fun _ _ _ _ _ => pe_dget hu (pv 0) (pv 1) (fun _ _ => rfl)))), ?_⟩
    obtain ⟨ek, ek2⟩ := knames_eq T.ks
    have hl7 : (knames kvs).length ≤ 7 := by
      have e := congrArg List.length ek2
      rw [List.length_map, List.length_map] at e
      have := T.len
      have := O.2.1
      omega
    refine ⟨_, rfl, d, kvs, rfl, .inl hd, fun l hl => ?_⟩
    refine ⟨l, knames kvs, rfl, SqL.of (by rw [upd_same, ek]), by omega, fun ys q perm srt hq => ?_⟩
    refine ⟨q, rfl, ⟨_, SqL.of upd_same⟩, fun D hD => ?_⟩
    generalize hHs : upd (upd H l _) q _ = Hs at hD
    have s1 : Same H Hs := by
      rw [← hHs]
      exact (same_new hl).trans (same_new hq)
    have hqs : Hs q = some (.lst (ys.map V.str)) := by
      rw [← hHs]
      exact upd_same
    have hp : (ys.map (Sum.inr : Str → Key)).Perm (kvs.map (·.1)) := by
      rw [← ek2]
      exact perm.map _
    have hn : ys.Nodup := by
      have := hp.nodup_iff.mpr T.nd
      exact List.Pairwise.of_map _ (fun a b h e => h (by rw [e])) this
    have hyl : ys.length ≤ 7 := by rw [perm.length_eq]; exact hl7
    refine dc_it (walk_list (K := K) (a := q) (xs := ys.map V.str)) (fun i H5 => Same Hs H5 ∧ H5 D = some (.dK (rows kvs (ys.take i)))) ⟨same_new hD, upd_same⟩ (fun i H5 _ hp => SqL.of (hp.1 _ _ hqs)) ?_ ?_
    · rintro i x H5 H6 hi ⟨s5, hD5⟩ ⟨rfl, hx⟩
      obtain ⟨z, hz, rfl⟩ : ∃ z, ys[i]? = some z ∧ x = V.str z := by
        rw [List.getElem?_map] at hx
        cases e : ys[i]? with
        | none => rw [e] at hx; cases hx
        | some z => rw [e] at hx; exact ⟨z, rfl, (Option.some.inj hx).symm⟩
      obtain ⟨v, hv⟩ : ∃ v, valV kvs (.inr z : Key) = some v := by
        have m := hp.mem_iff.mp (List.mem_map_of_mem (f := (Sum.inr : Str → Key)) (List.mem_of_getElem? hz))
        cases e : valV kvs (.inr z : Key) with
        | some v => exact ⟨v, rfl⟩
        | none =>
          have := valV_isSome.mpr m
          rw [e] at this
          cases this
      refine ⟨rfl, ?_⟩
      refine iteT (B := True) ?_
      refine iteT ?_
      refine ⟨_, rfl, _, rfl, _, rfl, d, v, rfl, (by rw [← hv]; exact DGet.k (k := Sum.inr z) (s5 _ _ (s1 _ _ hd))), _, Sum.inr z, rfl, hD5, ?_, fun b o hb => ?_, ?_⟩
      · unfold rows
        rw [List.length_map, List.length_take]
        exact small1000 (by omega)
      · rw [upd_ne (ne_of_none hb hD)]
        exact s5 _ _ hb
      · rw [upd_same, rows_snoc hn hz hv]
    · rintro H5 ⟨s5, hD5⟩
      rw [List.length_map, List.take_length] at hD5
      exact k D _ H5 (s1.free hD) hD5 ⟨ys, srt, hp, rfl⟩ (s1.trans s5)
end
end K31
set_option Elab.async false
set_option linter.all false
set_option maxRecDepth 100000
set_option maxHeartbeats 4000000
/-! bindings_of, Env.__init__: walks. -/
namespace K31
open PySem PySem.Spec PyProof.Rows L2
/-- an environment at p, its table es at d -/
structure EnvAt (C : Addr) (H : Hp) (p d : Addr) (es : Tb) : Prop where
  ob : ∃ dx, H p = some (.ins C dx [(("table" : Str), V.ref d)])
  dc : H d = some (.dK es)
theorem EnvAt.same {C p d : Addr} {H H' : Hp} {es : Tb} (E : EnvAt C H p d es) (s : Same H H') : EnvAt C H' p d es := by
  obtain ⟨⟨dx, h⟩, hd⟩ := E
  exact ⟨⟨dx, s _ _ h⟩, s _ _ hd⟩
/-- what the top has left of Env -/
structure EnvT (K : PySem.W.Frag) (mg : Str → Option Value) (C : Addr) : Prop where
  ic : C8.InsC K C
  nT : NoAttr K C "table"
  mgE : mg "Env" = some (.ref C)
  kit : ∀ T, OrT T → PySem.W.kitOne K (.type T) (.ref C) = some false
theorem EnvT.cl {K : PySem.W.Frag} {mg : Str → Option Value} {C : Addr} (T : EnvT K mg C) : Cls K C := T.ic.cl
theorem EnvT.ty {K : PySem.W.Frag} {mg : Str → Option Value} {C : Addr} (T : EnvT K mg C) {H : Hp} {a dx : Addr} {fs : List (Str × V)} (h : H a = some (.ins C dx fs)) : TyX K H (.ref a) (.ref C) :=
  .base (.ins h T.cl T.ic.ha T.ic.hn T.ic.htk T.ic.hm)
/-- neither a dict nor an environment -/
def Wrong (K : PySem.W.Frag) (H : Hp) (x : V) : Prop := ∃ T, OrT T ∧ T ≠ "dict" ∧ TyX K H x (.type T)
/-- x tells the bindings kvs: an environment of them, or a dict -/
def Src (C : Addr) (ns : List Str) (H : Hp) (x : V) (kvs : Tb) : Prop := TabOk ns kvs ∧ ((∃ p d es, x = .ref p ∧ EnvAt C H p d es ∧ Asc kvs es) ∨ ∃ d, x = .ref d ∧ H d = some (.dK kvs))
theorem Src.same {C : Addr} {ns : List Str} {H H' : Hp} {x : V} {kvs : Tb} (S : Src C ns H x kvs) (s : Same H H') : Src C ns H' x kvs := by
  refine ⟨S.1, ?_⟩
  rcases S.2 with ⟨p, d, es, e, h, a⟩ | ⟨d, e, h⟩
  · exact .inl ⟨p, d, es, e, h.same s, a⟩
  · exact .inr ⟨d, e, s _ _ h⟩
/-- NotBindings with x is raised -/
def NotE (CN : Addr) (H : Hp) (x : V) (E : XK) : Prop := ∀ dd H', H dd = none → H' dd = some (.xd (vFld x)) → Same H H' → E (.ref CN) (some dd) H'
def spBind (K : PySem.W.Frag) (C CN : Addr) : Sp := fun vs H Q E => ∃ x, vs = [x] ∧ ((∃ kvs ns, NamesOk ns ∧ Src C ns H x kvs ∧ ∀ q es H', H q = none → H' q = some (.dK es) → Asc kvs es → Same H H' → Q (.ref q) H') ∨ (Wrong K H x ∧ NotE CN H x E))
def spInit (C : Addr) : Sp := fun vs H Q _ => ∃ p dx x kvs ns, vs = [.ref p, x] ∧ H p = some (.ins C dx []) ∧ NamesOk ns ∧ Src C ns H x kvs ∧
  ∀ d es H', H d = none → EnvAt C H' p d es → Asc kvs es → (∀ b o, H b = some o → b ≠ p → H' b = some o) → Q .non H'
theorem not_dict {T : String} (h : OrT T) (n : T ≠ "dict") : kitB T "dict" = some false := by
  cases h with
  | dict => exact absurd rfl n
  | _ => decide +kernel
section
variable {P : Program} {w : World} {K : PySem.W.Frag} {mg : Str → Option Value} {base : Heap} {C CN : Addr}
theorem scBind : FnScope ["given", "name", "value"] ["given"] (defScope sBind) := ⟨rfl, rfl, rfl, by decide +kernel, rfl, by decide +kernel, by decide +kernel⟩
theorem ok_bind {f fP fA fNI ccN cdN : Addr} {fd fdP fdA : FuncData} {file : Str} (F : Fun K "bindings_of" "bindings_of" sBind f fd) (M : Mg K mg) (T : EnvT K mg C) (TN : PySem.NotX.NotTxt K mg file CN fNI ccN cdN)
    (htop : (P.main.scope.names.lookup ("super" : Str)).isSome = false) (hfile : ((P.main.file : Str) == file) = true)
    (GP : FnOk P w K mg base CX0 3 fP fdP ["name", "value"] spPair) (mP : mg "check_pair" = some (.ref fP)) (kP : PySem.W.keepIn K (.ref fP) = true) (bP : Binds K fdP ["name", "value"] [])
    (GA : FnOk P w K mg base CX0 1 fA fdA ["table"] spAsc) (mA : mg "ascending" = some (.ref fA)) (kA : PySem.W.keepIn K (.ref fA) = true) (bA : Binds K fdA ["table"] []) : FnOk P w K mg base (L2.CX P w) 4 f fd ["given"] (spBind K C CN) := by
  refine F.okX scBind (fun vs H Q E h => ?_) (fun cdv A outer s H vs Q E hr h => ?_)
  · obtain ⟨x, rfl, _⟩ := h
    rfl
  · obtain ⟨x, rfl, h⟩ := h
    have hr1 : Room 1 _ := hr.mono (by decide)
    refine ⟨_, pss_cons (ps_if (pt_val (pe_callB call_isi (by rfl) M.isi (by decide +kernel) (pa_cons (pv 0) (pa_cons (pe_glob (v := .ref C) rfl T.mgE rfl) pa_nil)))) (pss_one (ps_ret (pe_callTy call_dictD (by rfl) M.dct (by decide +kernel) (pa_cons (pe_fld (pv 0) rfl) pa_nil)))) pss_nil)
      (pss_cons (ps_if (pt_not (pt_val (pe_callB call_isi (by rfl) M.isi (by decide +kernel) (pa_cons (pv 0) (pa_cons (pe_bltn (v := .ty "dict") (by rfl) M.dct (by decide +kernel) rfl) pa_nil))))) (pss_one (ps_raiseNot rfl TN hr (takes_of rfl rfl rfl rfl) (pa_cons (pv 0) pa_nil) htop hfile)) pss_nil)
      (PSs.nox (pss_cons (ps_lock (ps_for PassesOwn.never rfl (pi_items (pv 0)) (pg_tup rfl (pgs_cons (pg_name (i := 1) scBind.nd rfl (Or.inl rfl)) (pgs_cons (pg_name (i := 2) scBind.nd rfl (Or.inl rfl)) pgs_nil)))
        (pss_one (ps_expr (pe_call GP hr rfl mP kP bP .nil pass0 (pa_cons (pv 1) (pa_cons (pv 2) pa_nil)))))))
      (pss_one (ps_ret (pe_call GA hr1 rfl mA kA bA .nil pass0 (pa_cons (pv 0) pa_nil))))))), ?_⟩
    rcases h with ⟨kvs, ns, O, ⟨TO, (⟨p, d, es, rfl, ⟨⟨dx, hp⟩, hd⟩, asc⟩ | ⟨d, rfl, hd⟩)⟩, k⟩ | ⟨⟨Ty, hT, nd, ty⟩, k⟩
    · refine ⟨_, rfl, _, _, _, _, true, rfl, .own C, T.ty hp, T.ic.me, true, rfl, ?_⟩
      refine iteT (B := True) ?_
      refine ⟨_, rfl, p, C, dx, _, _, rfl, hp, T.cl, T.nT, rfl, d, es, rfl, .inl hd, fun q hq => ?_⟩
      exact k q es _ hq upd_same asc (same_new hq)
    · refine ⟨_, rfl, _, _, _, _, false, rfl, .own C, .base (.dK hd), T.kit _ .dict, false, rfl, ?_⟩
      refine iteF (A := True) ?_
      refine ⟨_, rfl, _, _, _, _, true, rfl, .ty "dict", .base (.dK hd), kit_ty (by decide +kernel), true, rfl, ?_⟩
      refine iteF (A := True) ?_
      refine ⟨d, _, hd, trivial, fun od => ?_⟩
      refine ⟨_, rfl, d, od, kvs, rfl, upd_same, ?_⟩
      refine for_it (walk_items (d := d) (o := od) (kvs := kvs)) (fun i σ H5 => ∃ v1 v2, σ = [some (.ref d), v1, v2] ∧ H5 d = some (.frz od (.dK kvs)) ∧ ∀ b o, H b = some o → b ≠ d → H5 b = some o)
        ⟨none, none, rfl, upd_same, fun b o hb n => by rw [upd_ne n]; exact hb⟩ (fun i σ H5 _ ⟨_, _, _, hq, _⟩ => hq) ?_ ?_
      · rintro i x σ H5 H6 hi ⟨v1, v2, rfl, hd5, k5⟩ ⟨t, y, z, rfl, ht, rfl, ey, ez⟩
        have hm := List.getElem_mem hi
        have e0 : kvs[i]? = some kvs[i] := List.getElem?_eq_getElem hi
        have ey : (kvs[i]?).map (fun kv => kV kv.1) = some y := ey
        have ez : (kvs[i]?).map Prod.snd = some z := ez
        rw [e0] at ey ez
        obtain ⟨nm, hnm, en⟩ := TO.ks _ hm
        have e1 : y = V.str nm := by
          have : kV kvs[i].1 = y := Option.some.inj ey
          rw [en] at this
          exact this.symm
        have e2 : z = kvs[i].2 := (Option.some.inj ez).symm
        subst e1 e2
        have s6 := same_new (o := .tup [V.str nm, kvs[i].2]) ht
        refine ⟨t, _, rfl, SqT.of upd_same, rfl, ?_⟩
        refine ⟨_, _, rfl, _, _, rfl, rfl, _, rfl, _, rfl, nm, _, rfl, O.2.2.1 nm hnm, TO.vs _ hm, fun H7 s7 => ?_⟩
        exact ⟨_, _, rfl, s7 _ _ (s6 _ _ hd5), fun b o hb n => s7 _ _ (s6 _ _ (k5 b o hb n))⟩
      · rintro σ H5 ⟨v1, v2, rfl, hd5, k5⟩
        refine ⟨hd5, _, rfl, d, kvs, ns, rfl, upd_same, TO, O, fun q es H6 hq hq6 asc s6 => ?_⟩
        have s5 : Same H (upd H5 d (.dK kvs)) := fun b o hb => by
          by_cases e : b = d
          · rw [e, upd_same, ← hd, ← e]; exact hb
          · rw [upd_ne e]; exact k5 b o hb e
        exact k q es H6 (s5.free hq) hq6 asc (s5.trans s6)
    · refine ⟨_, rfl, _, _, _, _, false, rfl, .own C, ty, T.kit _ hT, false, rfl, ?_⟩
      refine iteF (A := True) ?_
      refine ⟨_, rfl, _, _, _, _, false, rfl, .ty "dict", ty, kit_ty (not_dict hT nd), false, rfl, ?_⟩
      refine iteT (B := True) ?_
      refine ⟨_, rfl, x, rfl, fun dd hdd => ?_⟩
      exact k dd _ hdd upd_same (same_new hdd)
end
end K31
set_option Elab.async false
set_option linter.all false
set_option maxRecDepth 100000
set_option maxHeartbeats 4000000
/-! Env: its methods walked. -/
namespace K31
open PySem PySem.Spec PyProof.Rows L2
def spLen (C : Addr) : Sp := fun vs H Q _ => ∃ p d es, vs = [.ref p] ∧ EnvAt C H p d es ∧ Q (.int (es.length : Nat)) H
def spEq (C : Addr) : Sp := fun vs H Q _ => ∃ p d es q e fs, vs = [.ref p, .ref q] ∧ EnvAt C H p d es ∧ EnvAt C H q e fs ∧ (∀ x ∈ es, fl2 x.2 = true) ∧ (∀ x ∈ fs, fl2 x.2 = true) ∧ Q (.bl (dEq es fs)) H
def spListed (C : Addr) : Sp := fun vs H Q _ => ∃ p d es, vs = [.ref p] ∧ EnvAt C H p d es ∧ ∀ (H' : Hp) (l : Addr) (ts : List Addr), Same H H' → H l = none → H' l = some (.lst (ts.map V.ref)) → Paired (fun (t : Addr) (q : Key × V) => H' t = some (.tup [kV q.1, q.2])) ts es → Q (.ref l) H'
/-- a new environment of kvs -/
def NewEnv (C : Addr) (H : Hp) (kvs : Tb) (Q : VK) : Prop := ∀ r dr er H', H r = none → H dr = none → EnvAt C H' r dr er → Asc kvs er → Same H H' → Q (.ref r) H'
def spOr (K : PySem.W.Frag) (C CN : Addr) (rev : Bool) : Sp := fun vs H Q E => ∃ p d es ka ns x, vs = [.ref p, x] ∧ NamesOk ns ∧ EnvAt C H p d es ∧ Asc ka es ∧ TabOk ns ka ∧
  ((∃ kb, Src C ns H x kb ∧ NewEnv C H (if rev = true then mergeK kb ka else mergeK ka kb) Q) ∨ (Wrong K H x ∧ NotE CN H x E))
def inK (zs : List Str) (k : Key) : Bool := match k with
  | .inr z => zs.any fun y => y == z
  | .inl _ => false
def spSel (K : PySem.W.Frag) (C : Addr) (inside : Bool) : Sp := fun vs H Q _ => ∃ p d es ka ns q zs, vs = [.ref p, .ref q] ∧ NamesOk ns ∧ EnvAt C H p d es ∧ Asc ka es ∧ TabOk ns ka ∧ (SqL K H q (zs.map V.str) ∨ SqT K H q (zs.map V.str)) ∧
  NewEnv C H (ka.filter fun p => inK zs p.1 == inside) Q
theorem tyx_same {K : PySem.W.Frag} {H H' : Hp} {x : V} {t : Value} (s : Same H H') (h : TyX K H x t) : TyX K H' x t := by
  cases h with
  | base b =>
    cases b with
    | non => exact .base .non
    | bl y => exact .base (.bl y)
    | int y => exact .base (.int y)
    | str y => exact .base (.str y)
    | flt y => exact .base (.flt y)
    | lst e => exact .base (.lst (s _ _ e))
    | frz e => exact .base (.frz (s _ _ e))
    | tup e => exact .base (.tup (s _ _ e))
    | dK e => exact .base (.dK (s _ _ e))
    | dT e => exact .base (.dT (s _ _ e))
    | ins e a b c d f => exact .base (.ins (s _ _ e) a b c d f)
  | byt y => exact .byt y
  | set e => exact .set (s _ _ e)
  | kList e c => exact .kList e c
  | kTuple e c => exact .kTuple e c
  | kDict e c => exact .kDict e c
  | fTuple e => exact .fTuple (s _ _ e)
  | fDict e => exact .fDict (s _ _ e)
theorem Wrong.same {K : PySem.W.Frag} {H H' : Hp} {x : V} (s : Same H H') (h : Wrong K H x) : Wrong K H' x := by
  obtain ⟨T, a, b, c⟩ := h
  exact ⟨T, a, b, tyx_same s c⟩
theorem NotE.same {CN : Addr} {H H' : Hp} {x : V} {E : XK} (s : Same H H') (h : NotE CN H x E) : NotE CN H' x E := fun dd H2 h1 h2 s2 => h dd H2 (s.free h1) h2 (s.trans s2)
section
variable {P : Program} {w : World} {K : PySem.W.Frag} {mg : Str → Option Value} {base : Heap} {C CN : Addr}
theorem scInit : FnScope ["self", "bindings"] ["self", "bindings"] (defScope sInit) := ⟨rfl, rfl, rfl, by decide +kernel, rfl, by decide +kernel, by decide +kernel⟩
theorem ok_init {f fB : Addr} {fd fdB : FuncData} (F : FunD K "__init__" "Env.__init__" (defArgs sInit) (defBody sInit) (defScope sInit) [.non] [] f fd) (T : EnvT K mg C)
    (GB : FnOk P w K mg base (L2.CX P w) 4 fB fdB ["given"] (spBind K C CN)) (mB : mg "bindings_of" = some (.ref fB)) (kB : PySem.W.keepIn K (.ref fB) = true) (bB : Binds K fdB ["given"] []) : FnOk P w K mg base CX0 5 f fd ["self", "bindings"] (spInit C) := by
  refine F.ok scInit (fun vs H Q E h => ?_) (fun cdv A outer s H vs Q E hr h => ?_)
  · obtain ⟨p, dx, x, kvs, ns, rfl, _⟩ := h
    rfl
  · obtain ⟨p, dx, x, kvs, ns, rfl, hp, O, S, k⟩ := h
    refine ⟨_, PSs.nox (pss_one (ps_fld (pv 0) (pe_ifExp (pt_cmpR op_isN (pv 1) pe_non (nomark _)) pe_dnewK (pe_call GB hr rfl mB kB bB .nil passL (pa_cons (pv 1) pa_nil))) rfl)), ?_⟩
    have hx : decide (x = .non) = false := by
      rcases S.2 with ⟨_, _, _, rfl, _⟩ | ⟨_, rfl, _⟩ <;> rfl
    refine ⟨_, rfl, rfl, _, rfl, ?_⟩
    rw [hx]
    refine iteF (A := True) ?_
    refine ⟨_, rfl, x, rfl, .inl ⟨kvs, ns, O, S, fun q es H1 hq hq1 asc s1 => ?_⟩⟩
    refine ⟨_, rfl, p, C, dx, [], rfl, s1 _ _ hp, T.cl, T.nT, (by show 0 < 1000; decide), ?_⟩
    have hqp : q ≠ p := fun e => by rw [e, hp] at hq; cases hq
    refine k q es _ hq ⟨⟨dx, upd_same⟩, by rw [upd_ne hqp]; exact hq1⟩ asc fun b o hb n => ?_
    rw [upd_ne n]
    exact s1 _ _ hb
theorem scLen : FnScope ["self"] ["self"] (defScope sLen) := ⟨rfl, rfl, rfl, by decide +kernel, rfl, by decide +kernel, by decide +kernel⟩
theorem ok_len {f : Addr} {fd : FuncData} (F : Fun K "__len__" "Env.__len__" sLen f fd) (M : Mg K mg) (T : EnvT K mg C) : FnOk P w K mg base CX0 1 f fd ["self"] (spLen C) := by
  refine F.ok scLen (fun vs H Q E h => ?_) (fun cdv A outer s H vs Q E hr h => ?_)
  · obtain ⟨p, d, es, rfl, _⟩ := h
    rfl
  · obtain ⟨p, d, es, rfl, ⟨⟨dx, hp⟩, hd⟩, k⟩ := h
    refine ⟨_, pss_one (ps_ret (pe_callB call_lenD (by rfl) M.len PySem.boot_len (pa_cons (pe_fld (pv 0) rfl) pa_nil))), ?_⟩
    exact ⟨_, rfl, p, C, dx, _, _, rfl, hp, T.cl, T.nT, rfl, d, es, rfl, hd, k⟩
theorem scEq : FnScope ["self", "other"] ["self", "other"] (defScope sEq) := ⟨rfl, rfl, rfl, by decide +kernel, rfl, by decide +kernel, by decide +kernel⟩
theorem ok_eq {f : Addr} {fd : FuncData} (F : Fun K "__eq__" "Env.__eq__" sEq f fd) (M : Mg K mg) (T : EnvT K mg C) : FnOk P w K mg base CX0 1 f fd ["self", "other"] (spEq C) := by
  refine F.ok scEq (fun vs H Q E h => ?_) (fun cdv A outer s H vs Q E hr h => ?_)
  · obtain ⟨p, d, es, q, e, fs, rfl, _⟩ := h
    rfl
  · obtain ⟨p, d, es, q, e, fs, rfl, ⟨⟨dx, hp⟩, hd⟩, ⟨⟨dy, hq⟩, he⟩, f1, f2, k⟩ := h
    have hu := hu_of hr
    refine ⟨_, pss_one (ps_ret (pe_and (pe_callB call_isi (by rfl) M.isi (by decide +kernel) (pa_cons (pv 1) (pa_cons (pe_glob (v := .ref C) rfl T.mgE rfl) pa_nil)))
      (pe_one (pe_cmpR (op_dEq (Nat.lt_of_succ_lt hu)) (pe_fld (pv 0) rfl) (pe_fld (pv 1) rfl) (nomark _))))), ?_⟩
    refine ⟨_, rfl, _, _, _, _, true, rfl, .own C, T.ty hq, T.ic.me, true, rfl, ?_⟩
    refine iteT (B := True) ?_
    exact ⟨_, rfl, p, C, dx, _, _, rfl, hp, T.cl, T.nT, rfl, _, rfl, q, C, dy, _, _, rfl, hq, T.cl, T.nT, rfl, d, e, es, fs, rfl, rfl, hd, he, f1, f2, k⟩
theorem scListed : FnScope ["self"] ["self"] (defScope sListed) := ⟨rfl, rfl, rfl, by decide +kernel, rfl, by decide +kernel, by decide +kernel⟩
theorem ok_listed {f : Addr} {fd : FuncData} (F : Fun K "listed" "Env.listed" sListed f fd) (M : Mg K mg) (T : EnvT K mg C) : FnOk P w K mg base CX0 1 f fd ["self"] (spListed C) := by
  refine F.ok scListed (fun vs H Q E h => ?_) (fun cdv A outer s H vs Q E hr h => ?_)
  · obtain ⟨p, d, es, rfl, _⟩ := h
    rfl
  · obtain ⟨p, d, es, rfl, ⟨⟨dx, hp⟩, hd⟩, k⟩ := h
    refine ⟨_, pss_one (ps_ret (LiI.pe_listItems rfl (pe_fld (pv 0) rfl) (by rfl) M.lst (by decide +kernel))), ?_⟩
    refine ⟨_, rfl, p, C, dx, _, _, rfl, hp, T.cl, T.nT, rfl, d, es, rfl, hd, fun H' l ts s hl _ _ hL hP => ?_⟩
    exact k H' l ts s hl hL hP
/-- Env(m) for a dict m that was just made: at x -/
theorem made_env {H H1 : Hp} {ns : List Str} {m o : Tb} {dm : Addr} {Q : VK} {E : XK} (s1 : Same H H1) (O : NamesOk ns) (hm : H1 dm = some (.dK m)) (Tm : TabOk ns m) (e : MEq m o) (ho : (o.map (·.1)).Nodup) (k : NewEnv C H o Q) :
    ∀ x dx, H1 x = none → H1 dx = none → dx ≠ x → spInit C [.ref x, .ref dm] (upd (upd H1 dx (.own x)) x (.ins C dx [])) (fun v H2 => v = .non ∧ Q (.ref x) H2) E := by
  intro x dx nx ndx ne
  have s2 : Same H1 (upd (upd H1 dx (.own x)) x (.ins C dx [])) := fun b o hb => by
    rw [upd_ne (ne_of_none hb nx), upd_ne (ne_of_none hb ndx)]
    exact hb
  refine ⟨x, dx, _, m, ns, rfl, upd_same, O, ⟨Tm, .inr ⟨dm, rfl, s2 _ _ hm⟩⟩, fun d es H' hd hE asc kp => ⟨rfl, ?_⟩⟩
  exact k x d es H' (s1.free nx) (s1.free (s2.free hd)) hE (asc.of e Tm.nd ho) fun b o hb => kp b o (s2 _ _ (s1 _ _ hb)) (ne_of_none (s1 _ _ hb) nx)
theorem scOr : FnScope ["self", "other"] ["self", "other"] (defScope sOr) := ⟨rfl, rfl, rfl, by decide +kernel, rfl, by decide +kernel, by decide +kernel⟩
theorem scRor : FnScope ["self", "other"] ["self", "other"] (defScope sRor) := ⟨rfl, rfl, rfl, by decide +kernel, rfl, by decide +kernel, by decide +kernel⟩
theorem le1000 {ns : List Str} {es : Tb} (T : TabOk ns es) (O : NamesOk ns) : es.length ≤ 1000 := by
  have := T.len
  have := O.2.1
  omega
theorem ok_or {f fB fI : Addr} {fd fdB fdI : FuncData} (F : Fun K "__or__" "Env.__or__" sOr f fd) (T : EnvT K mg C)
    (GB : FnOk P w K mg base (L2.CX P w) 4 fB fdB ["given"] (spBind K C CN)) (mB : mg "bindings_of" = some (.ref fB)) (kB : PySem.W.keepIn K (.ref fB) = true) (bB : Binds K fdB ["given"] [])
    (MI : Mk K C fI) (GI : FnOk P w K mg base CX0 5 fI fdI ["self", "bindings"] (spInit C)) (bI : Binds K fdI ["self", "bindings"] []) : FnOk P w K mg base (L2.CX P w) 7 f fd ["self", "other"] (spOr K C CN false) := by
  refine F.okX scOr (fun vs H Q E h => ?_) (fun cdv A outer s H vs Q E hr h => ?_)
  · obtain ⟨p, d, es, ka, ns, x, rfl, _⟩ := h
    rfl
  · obtain ⟨p, d, es, ka, ns, x, rfl, O, ⟨⟨dx, hp⟩, hd⟩, asc, TA, h⟩ := h
    have hr4 : Room 4 _ := hr.mono (by decide)
    refine ⟨_, pss_one (ps_ret (pe_make MI GI hr rfl T.mgE bI .nil pass0 (pa_cons (pe_dict2 (pe_fld (pv 0) rfl) (pe_call GB hr4 rfl mB kB bB .nil (passes_call (takes_of rfl rfl rfl rfl) (fun _ _ _ _ h => h)) (pa_cons (pv 1) pa_nil))) pa_nil))), ?_⟩
    intro m hm
    have sm := same_new (o := .dK []) hm
    have TE := asc.tab TA
    have nm : m ≠ d := fun e => by rw [e, hd] at hm; cases hm
    refine ⟨_, rfl, p, C, dx, _, _, rfl, sm _ _ hp, T.cl, T.nT, rfl, d, es, rfl, nm.symm, sm _ _ hd, upd_same, le1000 TE O, ?_⟩
    have s2 : Same H (upd (upd H m (.dK [])) m (.dK (mergeK [] es))) := fun b o hb => by
      rw [upd_ne (ne_of_none hb hm)]
      exact sm _ _ hb
    rcases h with ⟨kb, S, k⟩ | ⟨hw, k⟩
    · refine ⟨_, rfl, x, rfl, .inl ⟨kb, ns, O, S.same s2, fun q eb H3 hq hq3 ascb s3 => ?_⟩⟩
      have TB := S.1
      have TEb := ascb.tab TB
      have nq : q ≠ m := fun e => by rw [e, upd_same] at hq; cases hq
      refine ⟨q, eb, rfl, nq, hq3, s3 _ _ upd_same, le1000 TEb O, ?_⟩
      have TM : TabOk ns (mergeK (mergeK [] es) eb) := (TabOk.merge (TabOk.merge (.nil ns) TE) TEb)
      have me : MEq (mergeK (mergeK [] es) eb) (mergeK ka kb) := MEq.merge ((val_merge0 TE.nd).trans asc.meq) ascb.meq TEb.nd TB.nd
      refine made_env (fun b o hb => ?_) O upd_same TM me (TA.merge TB).nd k
      rw [upd_ne (ne_of_none hb hm)]
      exact s3 _ _ (s2 _ _ hb)
    · exact ⟨_, rfl, x, rfl, .inr ⟨hw.same s2, k.same s2⟩⟩
theorem ok_ror {f fB fI : Addr} {fd fdB fdI : FuncData} (F : Fun K "__ror__" "Env.__ror__" sRor f fd) (T : EnvT K mg C)
    (GB : FnOk P w K mg base (L2.CX P w) 4 fB fdB ["given"] (spBind K C CN)) (mB : mg "bindings_of" = some (.ref fB)) (kB : PySem.W.keepIn K (.ref fB) = true) (bB : Binds K fdB ["given"] [])
    (MI : Mk K C fI) (GI : FnOk P w K mg base CX0 5 fI fdI ["self", "bindings"] (spInit C)) (bI : Binds K fdI ["self", "bindings"] []) : FnOk P w K mg base (L2.CX P w) 7 f fd ["self", "other"] (spOr K C CN true) := by
  refine F.okX scRor (fun vs H Q E h => ?_) (fun cdv A outer s H vs Q E hr h => ?_)
  · obtain ⟨p, d, es, ka, ns, x, rfl, _⟩ := h
    rfl
  · obtain ⟨p, d, es, ka, ns, x, rfl, O, ⟨⟨dx, hp⟩, hd⟩, asc, TA, h⟩ := h
    have hr4 : Room 4 _ := hr.mono (by decide)
    refine ⟨_, pss_one (ps_ret (pe_make MI GI hr rfl T.mgE bI .nil pass0 (pa_cons (pe_dict2 (pe_call GB hr4 rfl mB kB bB .nil (passes_call (takes_of rfl rfl rfl rfl) (fun _ _ _ _ h => h)) (pa_cons (pv 1) pa_nil)) (pe_fld (pv 0) rfl)) pa_nil))), ?_⟩
    intro m hm
    have sm := same_new (o := .dK []) hm
    have TE := asc.tab TA
    have nm : m ≠ d := fun e => by rw [e, hd] at hm; cases hm
    rcases h with ⟨kb, S, k⟩ | ⟨hw, k⟩
    · refine ⟨_, rfl, x, rfl, .inl ⟨kb, ns, O, S.same sm, fun q eb H3 hq hq3 ascb s3 => ?_⟩⟩
      have TB := S.1
      have TEb := ascb.tab TB
      have nq : q ≠ m := fun e => by rw [e, upd_same] at hq; cases hq
      refine ⟨q, eb, rfl, nq, hq3, s3 _ _ upd_same, le1000 TEb O, ?_⟩
      have s4 : Same H (upd H3 m (.dK (mergeK [] eb))) := fun b o hb => by
        rw [upd_ne (ne_of_none hb hm)]
        exact s3 _ _ (sm _ _ hb)
      refine ⟨_, rfl, p, C, dx, _, _, rfl, s4 _ _ hp, T.cl, T.nT, rfl, d, es, rfl, nm.symm, s4 _ _ hd, upd_same, le1000 TE O, ?_⟩
      have TM : TabOk ns (mergeK (mergeK [] eb) es) := (TabOk.merge (TabOk.merge (.nil ns) TEb) TE)
      have me : MEq (mergeK (mergeK [] eb) es) (mergeK kb ka) := MEq.merge ((val_merge0 TEb.nd).trans ascb.meq) asc.meq TE.nd TA.nd
      refine made_env (fun b o hb => ?_) O upd_same TM me (TB.merge TA).nd k
      rw [upd_ne (ne_of_none hb hm)]
      exact s4 _ _ hb
    · exact ⟨_, rfl, x, rfl, .inr ⟨hw.same sm, k.same sm⟩⟩
theorem len_merge : ∀ (ys xs : Tb), (mergeK xs ys).length ≤ xs.length + ys.length
  | [], xs => Nat.le_refl _
  | p :: ys, xs => by
    have h1 := len_merge ys (putK xs p.1 p.2)
    have h2 := length_putK xs p.1 p.2
    show (mergeK (putK xs p.1 p.2) ys).length ≤ xs.length + (ys.length + 1)
    omega
theorem seq_but {H H5 : Hp} {d q : Addr} {es : Tb} {xs : List V} (hd : H d = some (.dK es)) (k : ∀ b o, H b = some o → b ≠ d → H5 b = some o) (h : SqL K H q xs ∨ SqT K H q xs) : SqL K H5 q xs ∨ SqT K H5 q xs := by
  have ne : ∀ {o : HO}, H q = some o → (∀ z, o ≠ .dK z) → q ≠ d := fun ho hn e => by
    rw [e, hd] at ho
    exact hn _ (Option.some.inj ho).symm
  rcases h with ((h | ⟨o, h⟩) | h) | ((h | ⟨o, h⟩) | h)
  · exact .inl (.inl (.inl (k _ _ h (ne h fun _ z => by cases z))))
  · exact .inl (.inl (.inr ⟨o, k _ _ h (ne h fun _ z => by cases z)⟩))
  · exact .inl (.inr h)
  · exact .inr (.inl (.inl (k _ _ h (ne h fun _ z => by cases z))))
  · exact .inr (.inl (.inr ⟨o, k _ _ h (ne h fun _ z => by cases z)⟩))
  · exact .inr (.inr h)
theorem scSub : FnScope ["self", "names", "name", "value"] ["self", "names"] (defScope sSub) := ⟨rfl, rfl, rfl, by decide +kernel, rfl, by decide +kernel, by decide +kernel⟩
theorem scOnly : FnScope ["self", "names", "name", "value"] ["self", "names"] (defScope sOnly) := ⟨rfl, rfl, rfl, by decide +kernel, rfl, by decide +kernel, by decide +kernel⟩
theorem ok_sub {f fI : Addr} {fd fdI : FuncData} (F : Fun K "__sub__" "Env.__sub__" sSub f fd) (T : EnvT K mg C)
    (MI : Mk K C fI) (GI : FnOk P w K mg base CX0 5 fI fdI ["self", "bindings"] (spInit C)) (bI : Binds K fdI ["self", "bindings"] []) : FnOk P w K mg base CX0 7 f fd ["self", "names"] (spSel K C false) := by
  refine F.ok scSub (fun vs H Q E h => ?_) (fun cdv A outer s H vs Q E hr h => ?_)
  · obtain ⟨p, d, es, ka, ns, q, zs, rfl, _⟩ := h
    rfl
  · obtain ⟨p, d, es, ka, ns, q, zs, rfl, O, ⟨⟨dx, hp⟩, hd⟩, asc, TA, hz, k⟩ := h
    refine ⟨_, pss_one (ps_ret (pe_make MI GI hr rfl T.mgE bI .nil pass0 (pa_cons (pe_lock
      (pe_dc (own := [("name", 2), ("value", 3)]) rfl scSub.nd (pi_items (pe_fld (pv 0) rfl)) (blkOk_by (own := [("name", 2), ("value", 3)]) (N := ["self", "names", "name", "value"]) (sc := defScope sSub) (by decide +kernel))
        (g := gTup K 2 (gCons (gName 2) (gCons (gName 3) gNil))) (fun _ _ _ _ _ => pg_tup rfl (pgs_cons (pg_name (i := 2) scSub.nd rfl (Or.inl rfl)) (pgs_cons (pg_name (i := 3) scSub.nd rfl (Or.inl rfl)) pgs_nil)))
        (fun _ _ _ _ _ => pts_one (pt_cmpR (r := rIn K true) op_notIn_seq (pv 2) (pv 1) (by rfl)))
        (fun _ _ _ _ _ => pv 2) (fun _ _ _ _ _ => pv 3))) pa_nil))), ?_⟩
    have TE := asc.tab TA
    have npd : p ≠ d := fun e => by rw [e, hd] at hp; cases hp
    refine ⟨d, .dK es, hd, trivial, fun od => ?_⟩
    refine ⟨_, rfl, p, C, dx, _, _, rfl, (by rw [upd_ne npd]; exact hp), T.cl, T.nT, rfl, d, od, es, rfl, upd_same, fun D hD => ?_⟩
    have nDd : D ≠ d := fun e => by rw [e, upd_same] at hD; cases hD
    have hD0 : H D = none := by rw [upd_ne nDd] at hD; exact hD
    refine dc_it (walk_items (d := d) (o := od) (kvs := es)) (fun i H5 => H5 d = some (.frz od (.dK es)) ∧ (∀ b o, H b = some o → b ≠ d → H5 b = some o) ∧ H5 D = some (.dK (mergeK [] ((es.take i).filter fun x => inK zs x.1 == false))))
      ⟨by rw [upd_ne nDd.symm, upd_same], fun b o hb n => by rw [upd_ne (ne_of_none hb hD0), upd_ne n]; exact hb, upd_same⟩ (fun i H5 _ hq => hq.1) ?_ ?_
    · rintro i x H5 H6 hi ⟨hd5, k5, hD5⟩ ⟨t, y, z, rfl, ht, rfl, ey, ez⟩
      have hm := List.getElem_mem hi
      have e0 : es[i]? = some es[i] := List.getElem?_eq_getElem hi
      have ey : (es[i]?).map (fun kv => kV kv.1) = some y := ey
      have ez : (es[i]?).map Prod.snd = some z := ez
      rw [e0] at ey ez
      obtain ⟨nm, hnm, en⟩ := TE.ks _ hm
      have e1 : y = V.str nm := by
        have : kV es[i].1 = y := Option.some.inj ey
        rw [en] at this
        exact this.symm
      have e2 : z = es[i].2 := (Option.some.inj ez).symm
      subst e1 e2
      have s6 := same_new (o := .tup [V.str nm, es[i].2]) ht
      have ntD : D ≠ t := fun e => by rw [← e, hD5] at ht; cases ht
      have tk : es.take (i + 1) = es.take i ++ [es[i]] := by rw [List.take_succ, e0]; rfl
      have hin : inV (.str nm) (zs.map V.str) = inK zs es[i].1 := by rw [inV_strs, en]; rfl
      refine ⟨t, _, rfl, SqT.of upd_same, rfl, _, _, rfl, _, _, rfl, rfl, rfl, ?_⟩
      refine ⟨_, rfl, _, rfl, q, _, rfl, seq_but hd (fun b o hb n => s6 _ _ (k5 b o hb n)) hz, rfl, flat_strs zs, _, rfl, ?_⟩
      refine ite2 (fun e => ?_) (fun e => ?_)
      · have hf : (inK zs es[i].1 == false) = true := by
          rw [hin] at e
          simpa using e
        refine ⟨_, rfl, _, rfl, _, .inr nm, rfl, s6 _ _ hD5, ?_, ?_, ?_, ?_⟩
        · refine Nat.lt_of_le_of_lt (Nat.le_trans (len_merge _ _) ?_) (show 1000 < sizeLine by decide)
          rw [List.length_nil, Nat.zero_add]
          exact Nat.le_trans (List.length_filter_le _ _) (Nat.le_trans (List.length_take_le' _ _) (le1000 TE O))
        · rw [upd_ne nDd.symm]
          exact s6 _ _ hd5
        · intro b o hb n
          rw [upd_ne (ne_of_none hb hD0)]
          exact s6 _ _ (k5 b o hb n)
        · rw [upd_same, tk, List.filter_append, List.filter_cons_of_pos (p := fun x : Key × V => inK zs x.1 == false) hf, List.filter_nil, merge_snoc, en]
      · have hf : ¬ (inK zs es[i].1 == false) = true := by
          rw [hin] at e
          simpa using e
        refine ⟨s6 _ _ hd5, fun b o hb n => s6 _ _ (k5 b o hb n), ?_⟩
        rw [tk, List.filter_append, List.filter_cons_of_neg (p := fun x : Key × V => inK zs x.1 == false) hf, List.filter_nil, List.append_nil]
        exact s6 _ _ hD5
    · rintro H5 ⟨hd5, k5, hD5⟩
      rw [List.take_length] at hD5
      have TF : TabOk ns (es.filter fun x => inK zs x.1 == false) := TE.part fun k => inK zs k == false
      refine ⟨hd5, made_env (fun b o hb => ?_) O (by rw [upd_ne nDd]; exact hD5) (TabOk.merge (.nil ns) TF) ((val_merge0 TF.nd).trans (asc.meq.part fun k => inK zs k == false)) (TA.part fun k => inK zs k == false).nd k⟩
      by_cases e : b = d
      · rw [e, upd_same, ← hd, ← e]; exact hb
      · rw [upd_ne e]; exact k5 b o hb e
theorem ok_only {f fI : Addr} {fd fdI : FuncData} (F : Fun K "only" "Env.only" sOnly f fd) (T : EnvT K mg C)
    (MI : Mk K C fI) (GI : FnOk P w K mg base CX0 5 fI fdI ["self", "bindings"] (spInit C)) (bI : Binds K fdI ["self", "bindings"] []) : FnOk P w K mg base CX0 7 f fd ["self", "names"] (spSel K C true) := by
  refine F.ok scOnly (fun vs H Q E h => ?_) (fun cdv A outer s H vs Q E hr h => ?_)
  · obtain ⟨p, d, es, ka, ns, q, zs, rfl, _⟩ := h
    rfl
  · obtain ⟨p, d, es, ka, ns, q, zs, rfl, O, ⟨⟨dx, hp⟩, hd⟩, asc, TA, hz, k⟩ := h
    refine ⟨_, pss_one (ps_ret (pe_make MI GI hr rfl T.mgE bI .nil pass0 (pa_cons (pe_lock
      (pe_dc (own := [("name", 2), ("value", 3)]) rfl scOnly.nd (pi_items (pe_fld (pv 0) rfl)) (blkOk_by (own := [("name", 2), ("value", 3)]) (N := ["self", "names", "name", "value"]) (sc := defScope sOnly) (by decide +kernel))
        (g := gTup K 2 (gCons (gName 2) (gCons (gName 3) gNil))) (fun _ _ _ _ _ => pg_tup rfl (pgs_cons (pg_name (i := 2) scOnly.nd rfl (Or.inl rfl)) (pgs_cons (pg_name (i := 3) scOnly.nd rfl (Or.inl rfl)) pgs_nil)))
        (fun _ _ _ _ _ => pts_one (pt_cmpR (r := rIn K false) op_in_seq (pv 2) (pv 1) (by rfl)))
        (fun _ _ _ _ _ => pv 2) (fun _ _ _ _ _ => pv 3))) pa_nil))), ?_⟩
    have TE := asc.tab TA
    have npd : p ≠ d := fun e => by rw [e, hd] at hp; cases hp
    refine ⟨d, .dK es, hd, trivial, fun od => ?_⟩
    refine ⟨_, rfl, p, C, dx, _, _, rfl, (by rw [upd_ne npd]; exact hp), T.cl, T.nT, rfl, d, od, es, rfl, upd_same, fun D hD => ?_⟩
    have nDd : D ≠ d := fun e => by rw [e, upd_same] at hD; cases hD
    have hD0 : H D = none := by rw [upd_ne nDd] at hD; exact hD
    refine dc_it (walk_items (d := d) (o := od) (kvs := es)) (fun i H5 => H5 d = some (.frz od (.dK es)) ∧ (∀ b o, H b = some o → b ≠ d → H5 b = some o) ∧ H5 D = some (.dK (mergeK [] ((es.take i).filter fun x => inK zs x.1 == true))))
      ⟨by rw [upd_ne nDd.symm, upd_same], fun b o hb n => by rw [upd_ne (ne_of_none hb hD0), upd_ne n]; exact hb, upd_same⟩ (fun i H5 _ hq => hq.1) ?_ ?_
    · rintro i x H5 H6 hi ⟨hd5, k5, hD5⟩ ⟨t, y, z, rfl, ht, rfl, ey, ez⟩
      have hm := List.getElem_mem hi
      have e0 : es[i]? = some es[i] := List.getElem?_eq_getElem hi
      have ey : (es[i]?).map (fun kv => kV kv.1) = some y := ey
      have ez : (es[i]?).map Prod.snd = some z := ez
      rw [e0] at ey ez
      obtain ⟨nm, hnm, en⟩ := TE.ks _ hm
      have e1 : y = V.str nm := by
        have : kV es[i].1 = y := Option.some.inj ey
        rw [en] at this
        exact this.symm
      have e2 : z = es[i].2 := (Option.some.inj ez).symm
      subst e1 e2
      have s6 := same_new (o := .tup [V.str nm, es[i].2]) ht
      have ntD : D ≠ t := fun e => by rw [← e, hD5] at ht; cases ht
      have tk : es.take (i + 1) = es.take i ++ [es[i]] := by rw [List.take_succ, e0]; rfl
      have hin : inV (.str nm) (zs.map V.str) = inK zs es[i].1 := by rw [inV_strs, en]; rfl
      refine ⟨t, _, rfl, SqT.of upd_same, rfl, _, _, rfl, _, _, rfl, rfl, rfl, ?_⟩
      refine ⟨_, rfl, _, rfl, q, _, rfl, seq_but hd (fun b o hb n => s6 _ _ (k5 b o hb n)) hz, rfl, flat_strs zs, _, rfl, ?_⟩
      refine ite2 (fun e => ?_) (fun e => ?_)
      · have hf : (inK zs es[i].1 == true) = true := by
          rw [hin] at e
          simpa using e
        refine ⟨_, rfl, _, rfl, _, .inr nm, rfl, s6 _ _ hD5, ?_, ?_, ?_, ?_⟩
        · refine Nat.lt_of_le_of_lt (Nat.le_trans (len_merge _ _) ?_) (show 1000 < sizeLine by decide)
          rw [List.length_nil, Nat.zero_add]
          exact Nat.le_trans (List.length_filter_le _ _) (Nat.le_trans (List.length_take_le' _ _) (le1000 TE O))
        · rw [upd_ne nDd.symm]
          exact s6 _ _ hd5
        · intro b o hb n
          rw [upd_ne (ne_of_none hb hD0)]
          exact s6 _ _ (k5 b o hb n)
        · rw [upd_same, tk, List.filter_append, List.filter_cons_of_pos (p := fun x : Key × V => inK zs x.1 == true) hf, List.filter_nil, merge_snoc, en]
      · have hf : ¬ (inK zs es[i].1 == true) = true := by
          rw [hin] at e
          simpa using e
        refine ⟨s6 _ _ hd5, fun b o hb n => s6 _ _ (k5 b o hb n), ?_⟩
        rw [tk, List.filter_append, List.filter_cons_of_neg (p := fun x : Key × V => inK zs x.1 == true) hf, List.filter_nil, List.append_nil]
        exact s6 _ _ hD5
    · rintro H5 ⟨hd5, k5, hD5⟩
      rw [List.take_length] at hD5
      have TF : TabOk ns (es.filter fun x => inK zs x.1 == true) := TE.part fun k => inK zs k == true
      refine ⟨hd5, made_env (fun b o hb => ?_) O (by rw [upd_ne nDd]; exact hD5) (TabOk.merge (.nil ns) TF) ((val_merge0 TF.nd).trans (asc.meq.part fun k => inK zs k == true)) (TA.part fun k => inK zs k == true).nd k⟩
      by_cases e : b = d
      · rw [e, upd_same, ← hd, ← e]; exact hb
      · rw [upd_ne e]; exact k5 b o hb e
end
end K31
set_option Elab.async false
set_option linter.all false
set_option maxRecDepth 100000
set_option maxHeartbeats 4000000
/-! _law_over, _law_part, _law_pairs, _law_is: walks. -/
namespace K31
open PySem PySem.Spec PyProof.Rows L2
def spOver : Sp := fun vs H Q _ => ∃ a b ka kb ns, vs = [.ref a, .ref b] ∧ NamesOk ns ∧ H a = some (.dK ka) ∧ H b = some (.dK kb) ∧ TabOk ns ka ∧ TabOk ns kb ∧ ∀ p H', H p = none → H' p = some (.dK (mergeK ka kb)) → Same H H' → Q (.ref p) H'
def spPart (K : PySem.W.Frag) : Sp := fun vs H Q _ => ∃ (a q : Addr) (ka : Tb) (zs ns : List Str) (ins : Bool), vs = [.ref a, .ref q, .bl ins] ∧ NamesOk ns ∧ H a = some (.dK ka) ∧ TabOk ns ka ∧ (SqL K H q (zs.map V.str) ∨ SqT K H q (zs.map V.str)) ∧
  ∀ p H', H p = none → H' p = some (.dK (mergeK [] (ka.filter fun x => inK zs x.1 == ins))) → Same H H' → Q (.ref p) H'
/-- a list of the pairs es at l -/
def PairsAt (H : Hp) (l : Addr) (es : Tb) : Prop := ∃ ts : List Addr, H l = some (.lst (ts.map V.ref)) ∧ Paired (fun (t : Addr) (q : Key × V) => H t = some (.tup [kV q.1, q.2])) ts es
def spPairs : Sp := fun vs H Q _ => ∃ (a l : Addr) (ka : Tb) (ns zs : List Str), vs = [.ref a, .ref l] ∧ NamesOk ns ∧ H a = some (.dK ka) ∧ TabOk ns ka ∧ H l = some (.lst (zs.map V.str)) ∧ (zs.map (Sum.inr : Str → Key)).Perm (ka.map (·.1)) ∧
  ∀ (q : Addr) (ys : List Str) (H' : Hp), H q = none → sortedS ys = true → (ys.map (Sum.inr : Str → Key)).Perm (ka.map (·.1)) → PairsAt H' q (rows ka ys) → Same H H' → Q (.ref q) H'
def spIs (C : Addr) : Sp := fun vs H Q _ => ∃ p d es a ka ns, vs = [.ref p, .ref a] ∧ NamesOk ns ∧ EnvAt C H p d es ∧ H a = some (.dK ka) ∧ Asc ka es ∧ TabOk ns ka ∧ ∀ H', Same H H' → Q (.bl true) H'
theorem paired_snoc {α β : Type} {F : α → β → Prop} : ∀ {xs : List α} {ys : List β}, Paired F xs ys → ∀ {x : α} {y : β}, F x y → Paired F (xs ++ [x]) (ys ++ [y])
  | _, _, .nil, _, _, h => .cons h .nil
  | _, _, .cons r t, _, _, h => .cons r (paired_snoc t h)
theorem paired_imp {α β : Type} {F G : α → β → Prop} (h : ∀ x y, F x y → G x y) : ∀ {xs : List α} {ys : List β}, Paired F xs ys → Paired G xs ys
  | _, _, .nil => .nil
  | _, _, .cons r t => .cons (h _ _ r) (paired_imp h t)
theorem eqV_refl : ∀ x, flatV x = true → eqV x x = true
  | .non, _ => rfl
  | .bl b, _ => beq_self_eq_true b
  | .int i, _ => beq_self_eq_true i
  | .str z, _ => beq_self_eq_true z
theorem prs_pairs {K : PySem.W.Frag} {H : Hp} : ∀ {es : Tb} {ts us : List Addr}, (∀ p ∈ es, flatV p.2 = true) → Paired (fun (t : Addr) (q : Key × V) => H t = some (.tup [kV q.1, q.2])) ts es → Paired (fun (t : Addr) (q : Key × V) => H t = some (.tup [kV q.1, q.2])) us es → Prs (DTup K DFlat) (ts.map V.ref) (us.map V.ref) H
  | [], _, _, _, .nil, .nil => Prs.nil
  | p :: es, t :: ts, u :: us, hf, .cons h1 r1, .cons h2 r2 => by
    have fl : flatV p.2 = true := hf p List.mem_cons_self
    have fk : flatV (kV p.1) = true := by cases p.1 <;> rfl
    refine Prs.cons ⟨t, u, _, _, rfl, rfl, SqT.of h1, SqT.of h2, Prs.cons ⟨fk, fk, eqV_refl _ fk⟩ (Prs.cons ⟨fl, fl, eqV_refl _ fl⟩ Prs.nil)⟩ (prs_pairs (fun q hq => hf q (List.mem_cons_of_mem _ hq)) r1 r2)
section
variable {P : Program} {w : World} {K : PySem.W.Frag} {mg : Str → Option Value} {base : Heap} {C CN : Addr}
theorem scOver : FnScope ["_law_low", "_law_high", "_law_table_here", "_law_name_here"] ["_law_low", "_law_high"] (defScope sOver) := ⟨rfl, rfl, rfl, by decide +kernel, rfl, by decide +kernel, by decide +kernel⟩
theorem ok_over {f : Addr} {fd : FuncData} (F : Fun K "_law_over" "_law_over" sOver f fd) (M : Mg K mg) : FnOk P w K mg base CX0 1 f fd ["_law_low", "_law_high"] spOver := by
  refine F.ok scOver (fun vs H Q E h => ?_) (fun cdv A outer s H vs Q E hr h => ?_)
  · obtain ⟨a, b, ka, kb, ns, rfl, _⟩ := h
    rfl
  · obtain ⟨a, b, ka, kb, ns, rfl, O, ha, hb, TA, TB, k⟩ := h
    have hu := hu_of hr
    refine ⟨_, pss_cons (ps_set (i := 2) scOver.nd rfl (Or.inl rfl) (pe_callTy call_dictD (by rfl) M.dct (by decide +kernel) (pa_cons (pv 0) pa_nil)))
      (pss_cons (ps_lock (ps_for PassesOwn.never rfl (pi_keys (pv 1)) (pg_name (i := 3) scOver.nd rfl (Or.inl rfl)) (pss_one (ps_dput hu (pv 2) (pv 3) (pe_dget hu (pv 1) (pv 3) (fun _ _ => rfl)) rfl))))
      (pss_one (ps_ret (pv 2)))), ?_⟩
    refine ⟨_, rfl, a, ka, rfl, .inl ha, fun p hp => ?_⟩
    have s1 := same_new (o := .dK ka) hp
    have npb : p ≠ b := fun e => by rw [e, hb] at hp; cases hp
    refine ⟨b, .dK kb, s1 _ _ hb, trivial, fun od => ?_⟩
    refine ⟨_, rfl, b, od, rfl, .inl ⟨kb, upd_same, ?_⟩⟩
    refine for_it (walk_keys (d := b) (o := od) (kvs := kb)) (fun i σ H5 => ∃ v, σ = [some (.ref a), some (.ref b), some (.ref p), v] ∧ H5 b = some (.frz od (.dK kb)) ∧ H5 p = some (.dK (mergeK ka (kb.take i))) ∧ ∀ c o, H c = some o → c ≠ b → H5 c = some o)
      ⟨none, rfl, upd_same, by rw [upd_ne npb, upd_same]; rfl, fun c o hc n => by rw [upd_ne n]; exact s1 _ _ hc⟩ (fun i σ H5 _ ⟨_, _, hq, _⟩ => hq) ?_ ?_
    · rintro i x σ H5 H6 hi ⟨v, rfl, hb5, hp5, k5⟩ ⟨rfl, y, z, e0, rfl⟩
      have e1 := List.getElem?_eq_getElem hi
      rw [e0] at e1
      have hm : (y, z) ∈ kb := List.mem_of_getElem? e0
      have tk : kb.take (i + 1) = kb.take i ++ [(y, z)] := by rw [List.take_succ, e0]; rfl
      refine ⟨_, rfl, _, rfl, b, z, rfl, .inl ⟨kb, y, .inr ⟨od, hb5⟩, rfl, (valV_mem TB.nd hm).symm⟩, ?_⟩
      refine ⟨_, rfl, _, rfl, p, _, rfl, DPut.k (k := y) hp5 ?_, ?_⟩
      · have h1 := len_merge (kb.take i) ka
        have h2 := List.length_take_le' i kb
        have h3 := TA.len
        have h4 := TB.len
        have h5 := O.2.1
        exact small1000 (by omega)
      · refine ⟨_, rfl, by rw [upd_ne npb.symm]; exact hb5, ?_, fun c o hc n => ?_⟩
        · rw [upd_same, tk, merge_snoc]
        · rw [upd_ne (ne_of_none hc hp)]
          exact k5 c o hc n
    · rintro σ H5 ⟨v, rfl, hb5, hp5, k5⟩
      rw [List.take_length] at hp5
      refine ⟨hb5, _, rfl, k p _ hp (by rw [upd_ne npb]; exact hp5) fun c o hc => ?_⟩
      by_cases e : c = b
      · rw [e, upd_same, ← hb, ← e]; exact hc
      · rw [upd_ne e]; exact k5 c o hc e
theorem scPart : FnScope ["_law_table_here", "_law_names_here", "_law_inside", "_law_part_here", "_law_name_here"] ["_law_table_here", "_law_names_here", "_law_inside"] (defScope sPart) := ⟨rfl, rfl, rfl, by decide +kernel, rfl, by decide +kernel, by decide +kernel⟩
theorem ok_part {f : Addr} {fd : FuncData} (F : Fun K "_law_part" "_law_part" sPart f fd) (M : Mg K mg) : FnOk P w K mg base CX0 1 f fd ["_law_table_here", "_law_names_here", "_law_inside"] (spPart K) := by
  refine F.ok scPart (fun vs H Q E h => ?_) (fun cdv A outer s H vs Q E hr h => ?_)
  · obtain ⟨a, q, ka, zs, ns, ins, rfl, _⟩ := h
    rfl
  · obtain ⟨a, q, ka, zs, ns, ins, rfl, O, ha, TA, hz, k⟩ := h
    have hu := hu_of hr
    refine ⟨_, pss_cons (ps_set (i := 3) scPart.nd rfl (Or.inl rfl) pe_dnewK)
      (pss_cons (ps_lock (ps_for PassesOwn.never rfl (pi_keys (pv 0)) (pg_name (i := 4) scPart.nd rfl (Or.inl rfl))
        (pss_one (ps_if (pt_cmpR op_eq (pe_cmpR op_in_seq (pv 4) (pv 1) (by rfl)) (pv 2) (nomark _)) (pss_one (ps_dput hu (pv 3) (pv 4) (pe_dget hu (pv 0) (pv 4) (fun _ _ => rfl)) rfl)) pss_nil))))
      (pss_one (ps_ret (pv 3)))), ?_⟩
    intro p hp
    have s1 := same_new (o := .dK []) hp
    have npa : p ≠ a := fun e => by rw [e, ha] at hp; cases hp
    refine ⟨a, .dK ka, s1 _ _ ha, trivial, fun od => ?_⟩
    refine ⟨_, rfl, a, od, rfl, .inl ⟨ka, upd_same, ?_⟩⟩
    refine for_it (walk_keys (d := a) (o := od) (kvs := ka)) (fun i σ H5 => ∃ v, σ = [some (.ref a), some (.ref q), some (.bl ins), some (.ref p), v] ∧ H5 a = some (.frz od (.dK ka)) ∧ H5 p = some (.dK (mergeK [] ((ka.take i).filter fun x => inK zs x.1 == ins))) ∧ ∀ c o, H c = some o → c ≠ a → H5 c = some o)
      ⟨none, rfl, upd_same, by rw [upd_ne npa, upd_same]; rfl, fun c o hc n => by rw [upd_ne n]; exact s1 _ _ hc⟩ (fun i σ H5 _ ⟨_, _, hq, _⟩ => hq) ?_ ?_
    · rintro i x σ H5 H6 hi ⟨v, rfl, ha5, hp5, k5⟩ ⟨rfl, y, z, e0, rfl⟩
      have hm : (y, z) ∈ ka := List.mem_of_getElem? e0
      have tk : ka.take (i + 1) = ka.take i ++ [(y, z)] := by rw [List.take_succ, e0]; rfl
      obtain ⟨nm, hnm, en⟩ := TA.ks _ hm
      have en : y = .inr nm := en
      subst en
      have hin : inV (.str nm) (zs.map V.str) = inK zs (.inr nm) := by rw [inV_strs]; rfl
      refine ⟨_, rfl, _, rfl, q, _, rfl, seq_but ha (fun c o hc n => k5 c o hc n) hz, rfl, flat_strs zs, _, rfl, rfl, _, rfl, ?_⟩
      refine ite2 (fun e => ?_) (fun e => ?_)
      · have hf : (inK zs (.inr nm : Key) == ins) = true := by
          have e := of_decide_eq_true e
          have e : inV (.str nm) (zs.map V.str) = ins := V.bl.inj e
          rw [← hin, e]
          simp
        refine ⟨_, rfl, _, rfl, a, z, rfl, .inl ⟨ka, .inr nm, .inr ⟨od, ha5⟩, rfl, (valV_mem TA.nd hm).symm⟩, ?_⟩
        refine ⟨_, rfl, _, rfl, p, _, rfl, DPut.k (k := .inr nm) hp5 ?_, ?_⟩
        · refine Nat.lt_of_le_of_lt (Nat.le_trans (len_merge _ _) ?_) (show 1000 < sizeLine by decide)
          rw [List.length_nil, Nat.zero_add]
          exact Nat.le_trans (List.length_filter_le _ _) (Nat.le_trans (List.length_take_le' _ _) (le1000 TA O))
        · refine ⟨_, rfl, by rw [upd_ne npa.symm]; exact ha5, ?_, fun c o hc n => ?_⟩
          · rw [upd_same, tk, List.filter_append, List.filter_cons_of_pos (p := fun x : Key × V => inK zs x.1 == ins) hf, List.filter_nil, merge_snoc]
          · rw [upd_ne (ne_of_none hc hp)]
            exact k5 c o hc n
      · have hf : ¬ (inK zs (.inr nm : Key) == ins) = true := by
          intro q
          refine e (decide_eq_true ?_)
          show V.bl (inV (.str nm) (zs.map V.str)) = V.bl ins
          rw [hin, beq_iff_eq.mp q]
        refine ⟨_, rfl, ha5, ?_, k5⟩
        rw [tk, List.filter_append, List.filter_cons_of_neg (p := fun x : Key × V => inK zs x.1 == ins) hf, List.filter_nil, List.append_nil]
        exact hp5
    · rintro σ H5 ⟨v, rfl, ha5, hp5, k5⟩
      rw [List.take_length] at hp5
      refine ⟨ha5, _, rfl, k p _ hp (by rw [upd_ne npa]; exact hp5) fun c o hc => ?_⟩
      by_cases e : c = a
      · rw [e, upd_same, ← ha, ← e]; exact hc
      · rw [upd_ne e]; exact k5 c o hc e
end
end K31
set_option Elab.async false
set_option linter.all false
set_option maxRecDepth 100000
set_option maxHeartbeats 4000000
/-! _law_pairs, _law_is: walks. -/
namespace K31
open PySem PySem.Spec PyProof.Rows L2
theorem rows_take {ka : Tb} {ys : List Str} {i : Nat} {z : Str} {v : V} (hz : ys[i]? = some z) (hv : valV ka (.inr z) = some v) : rows ka (ys.take (i + 1)) = rows ka (ys.take i) ++ [(.inr z, v)] := by
  rw [List.take_succ, hz]
  unfold rows
  rw [List.map_append]
  show _ ++ [(_, (valV ka (.inr z)).getD .non)] = _
  rw [hv]
  rfl
theorem perm_len7 {ns : List Str} {ka : Tb} {zs : List Str} (T : TabOk ns ka) (O : NamesOk ns) (hp : (zs.map (Sum.inr : Str → Key)).Perm (ka.map (·.1))) : zs.length ≤ 7 := by
  have e := hp.length_eq
  rw [List.length_map, List.length_map] at e
  have := T.len
  have := O.2.1
  omega
section
variable {P : Program} {w : World} {K : PySem.W.Frag} {mg : Str → Option Value} {base : Heap} {C CN : Addr}
theorem scPairs : FnScope ["_law_table_here", "_law_names_here", "_law_name_here"] ["_law_table_here", "_law_names_here"] (defScope sPairs) := ⟨rfl, rfl, rfl, by decide +kernel, rfl, by decide +kernel, by decide +kernel⟩
theorem ok_pairs {f : Addr} {fd : FuncData} (F : Fun K "_law_pairs" "_law_pairs" sPairs f fd) (M : Mg K mg) : FnOk P w K mg base CX0 1 f fd ["_law_table_here", "_law_names_here"] spPairs := by
  refine F.ok scPairs (fun vs H Q E h => ?_) (fun cdv A outer s H vs Q E hr h => ?_)
  · obtain ⟨a, l, ka, ns, zs, rfl, _⟩ := h
    rfl
  · obtain ⟨a, l, ka, ns, zs, rfl, O, ha, TA, hl, hp, k⟩ := h
    have hu := hu_of hr
    refine ⟨_, pss_one (ps_ret (pe_lc (own := [("_law_name_here", 2)]) (g := gName 2) (tt := tYes) rfl scPairs.nd (pi_list (pe_callB cr_sortedS (by rfl) M.srt (by decide +kernel) (pa_cons (pv 1) pa_nil)))
      (blkOk_by (own := [("_law_name_here", 2)]) (N := ["_law_table_here", "_law_names_here", "_law_name_here"]) (sc := defScope sPairs) (by decide +kernel))
      (fun _ _ _ _ _ => pg_name (i := 2) scPairs.nd rfl (Or.inl rfl)) (fun _ _ _ _ _ => pts_nil) (fun _ _ _ _ _ => pe_tup (pa_cons (pv 2) (pa_cons (pe_dget hu (pv 0) (pv 2) (fun _ _ => rfl)) pa_nil))))), ?_⟩
    have hl7 := perm_len7 TA O hp
    refine ⟨_, rfl, l, zs, rfl, SqL.of hl, by omega, fun ys q perm srt hq => ?_⟩
    refine ⟨q, rfl, ⟨_, SqL.of upd_same⟩, fun D hD => ?_⟩
    generalize hHs : upd H q _ = Hs at hD
    have s1 : Same H Hs := by rw [← hHs]; exact same_new hq
    have hqs : Hs q = some (.lst (ys.map V.str)) := by rw [← hHs]; exact upd_same
    have hpy : (ys.map (Sum.inr : Str → Key)).Perm (ka.map (·.1)) := (perm.map _).trans hp
    have hyl := perm_len7 TA O hpy
    refine lc_list (K := K) (a := q) (xs := ys.map V.str) (fun i H5 => Same Hs H5 ∧ ∃ ts : List Addr, H5 D = some (.lst (ts.map V.ref)) ∧ Paired (fun (t : Addr) (p : Key × V) => H5 t = some (.tup [kV p.1, p.2])) ts (rows ka (ys.take i)))
      ⟨same_new hD, [], upd_same, .nil⟩ (fun i H5 _ hp => SqL.of (hp.1 _ _ hqs)) ?_ ?_
    · rintro i x H5 hx ⟨s5, ts, hD5, pr⟩
      obtain ⟨z, hz, rfl⟩ : ∃ z, ys[i]? = some z ∧ x = V.str z := by
        rw [List.getElem?_map] at hx
        cases e : ys[i]? with
        | none => rw [e] at hx; cases hx
        | some z => rw [e] at hx; exact ⟨z, rfl, (Option.some.inj hx).symm⟩
      obtain ⟨v, hv⟩ : ∃ v, valV ka (.inr z : Key) = some v := by
        have m := hpy.mem_iff.mp (List.mem_map_of_mem (f := (Sum.inr : Str → Key)) (List.mem_of_getElem? hz))
        cases e : valV ka (.inr z : Key) with
        | some v => exact ⟨v, rfl⟩
        | none =>
          have := valV_isSome.mpr m
          rw [e] at this
          cases this
      refine ⟨rfl, ?_⟩
      refine iteT (B := True) ?_
      refine iteT ?_
      refine ⟨_, rfl, _, rfl, _, rfl, a, v, rfl, (by rw [← hv]; exact DGet.k (k := Sum.inr z) (s5 _ _ (s1 _ _ ha))), (by show 2 ≤ sizeLine; decide), fun t ht => ?_⟩
      have st := same_new (o := .tup [V.str z, v]) ht
      refine ⟨_, st _ _ hD5, ?_, fun b o hb => ?_, ts ++ [t], ?_, ?_⟩
      · rw [List.length_map]
        have e : ts.length = (rows ka (ys.take i)).length := Paired.length pr
        unfold rows at e
        rw [List.length_map, List.length_take] at e
        exact small1000 (by omega)
      · rw [upd_ne (ne_of_none hb hD)]
        exact st _ _ (s5 _ _ hb)
      · rw [upd_same, List.map_append]
        rfl
      · have hDt : ∀ c o, o ≠ HO.lst (ts.map V.ref) → upd H5 t (.tup [V.str z, v]) c = some o → upd (upd H5 t (.tup [V.str z, v])) D (.lst (ts.map V.ref ++ [V.ref t])) c = some o := fun c o n hc => by
          have : c ≠ D := fun e => by
            rw [e, st _ _ hD5] at hc
            exact n (Option.some.inj hc).symm
          rw [upd_ne this]
          exact hc
        rw [rows_take hz hv]
        refine paired_snoc (paired_imp (fun c p hc => hDt _ _ (fun e => by cases e) (st _ _ hc)) pr) (hDt _ _ (fun e => by cases e) upd_same)
    · rintro H5 ⟨s5, ts, hD5, pr⟩
      rw [List.length_map, List.take_length] at pr
      exact k D ys H5 (s1.free hD) srt hpy ⟨ts, hD5, pr⟩ (s1.trans s5)
theorem scIs : FnScope ["_law_env", "_law_table_here"] ["_law_env", "_law_table_here"] (defScope sIs) := ⟨rfl, rfl, rfl, by decide +kernel, rfl, by decide +kernel, by decide +kernel⟩
theorem ok_is {f fL fS fP : Addr} {fd fdL fdS fdP : FuncData} (F : Fun K "_law_is" "_law_is" sIs f fd) (M : Mg K mg) (T : EnvT K mg C)
    (GL : FnOk P w K mg base CX0 1 fL fdL ["self"] (spListed C)) (mL : Meth K C "listed" fL) (bL : Binds K fdL ["self"] [])
    (GS : FnOk P w K mg base CX0 1 fS fdS ["self"] (spLen C)) (mS : Meth K C "__len__" fS) (bS : Binds K fdS ["self"] [])
    (GP : FnOk P w K mg base CX0 1 fP fdP ["_law_table_here", "_law_names_here"] spPairs) (mP : mg "_law_pairs" = some (.ref fP)) (kP : PySem.W.keepIn K (.ref fP) = true) (bP : Binds K fdP ["_law_table_here", "_law_names_here"] []) :
    FnOk P w K mg base CX0 3 f fd ["_law_env", "_law_table_here"] (spIs C) := by
  refine F.ok scIs (fun vs H Q E h => ?_) (fun cdv A outer s H vs Q E hr h => ?_)
  · obtain ⟨p, d, es, a, ka, ns, rfl, _⟩ := h
    rfl
  · obtain ⟨p, d, es, a, ka, ns, rfl, O, EA, ha, asc, TA, k⟩ := h
    have hr1 : Room 1 _ := hr.mono (by decide)
    refine ⟨_, pss_one (ps_ret (pe_and (pe_cmpR (op_eqG (rcG_list (mon_tup mon_flat) (eqG_tup mon_flat eqG_flat)) hr) (pe_meth0 (pv 0) T.cl mL GL hr1 bL .nil pass0) (pe_call GP hr1 rfl mP kP bP .nil pass0 (pa_cons (pv 1) (pa_cons (pe_callTy (call_listD rfl) (by rfl) M.lst (by decide +kernel) (pa_cons (pv 1) pa_nil)) pa_nil))) (nomark _))
      (pe_one (pe_cmpR op_eq (pe_callB (call_ownLen mS.at_ mS.fn (GS.raw bS .nil) hr pass0) (by rfl) M.len PySem.boot_len (pa_cons (pv 0) pa_nil)) (pe_callB call_lenD (by rfl) M.len PySem.boot_len (pa_cons (pv 1) pa_nil)) (nomark _))))), ?_⟩
    obtain ⟨⟨dx, hp⟩, hd⟩ := id EA
    obtain ⟨ek, ek2⟩ := knames_eq TA.ks
    refine ⟨_, rfl, p, dx, _, rfl, hp, rfl, p, d, es, rfl, EA, fun H1 l ts s1 hl hL pr => ?_⟩
    refine ⟨_, rfl, _, rfl, a, ka, rfl, .inl (s1 _ _ ha), fun m hm => ?_⟩
    have s2 := same_new (o := .lst (ka.map fun kv => kV kv.1)) hm
    refine ⟨a, m, ka, ns, knames ka, rfl, O, s2 _ _ (s1 _ _ ha), TA, (by rw [upd_same, ek]), (by rw [ek2]), fun q ys H3 hq srt hpy ⟨us, hu3, pr3⟩ s3 => ?_⟩
    have e : es = rows ka ys := asc.uniq srt hpy
    subst e
    have s13 : Same H1 H3 := s2.trans s3
    have TE := asc.tab TA
    refine ⟨⟨l, q, _, _, rfl, rfl, s13 _ _ hL, hu3, prs_pairs (fun x hx => (TE.vs x hx).flat) (paired_imp (fun c x hc => s13 _ _ hc) pr) pr3⟩, fun H4 s4 => ⟨true, rfl, ?_⟩⟩
    refine iteT (B := True) ?_
    have s04 : Same H H4 := s1.trans (s13.trans s4)
    refine ⟨_, rfl, p, dx, _, rfl, s04 _ _ hp, p, d, _, rfl, EA.same s04, _, rfl, ?_, ?_, _, rfl, a, ka, rfl, s04 _ _ ha, rfl, ?_⟩
    · omega
    · have := le1000 TE O
      omega
    · have e : (rows ka ys).length = ka.length := by
        have := hpy.length_eq
        rw [List.length_map, List.length_map] at this
        unfold rows
        rw [List.length_map, this]
      rw [e]
      rw [decide_eq_true rfl]
      exact k H4 s04
end
end K31
set_option Elab.async false
set_option linter.all false
set_option maxRecDepth 100000
set_option maxHeartbeats 4000000
/-! _law_grow: its walk. -/
namespace K31
open PySem PySem.Spec PyProof.Rows L2
structure Ent where
  p : Addr
  d : Addr
  a : Addr
  es : Tb
  ka : Tb
structure EntOk (C : Addr) (ns : List Str) (H : Hp) (e : Ent) : Prop where
  env : EnvAt C H e.p e.d e.es
  tab : H e.a = some (.dK e.ka)
  asc : Asc e.ka e.es
  ok : TabOk ns e.ka
/-- all but lists is kept -/
def KpN (H H' : Hp) : Prop := ∀ b o, H b = some o → (∀ xs, o ≠ HO.lst xs) → H' b = some o
theorem KpN.refl (H : Hp) : KpN H H := fun _ _ h _ => h
theorem KpN.trans {H H1 H2 : Hp} (a : KpN H H1) (b : KpN H1 H2) : KpN H H2 := fun c o h n => b c o (a c o h n) n
theorem KpN.of {H H' : Hp} (s : Same H H') : KpN H H' := fun c o h _ => s c o h
theorem KpN.kp {st g : Addr} {H H' : Hp} (S : StAt st g H) (k : Kp st g H H') : KpN H H' := fun _ _ h n => k.at S h n
theorem KpN.upd {H : Hp} {l : Addr} {xs ys : List V} (h : H l = some (.lst xs)) : KpN H (L2.upd H l (.lst ys)) := fun c o hc n => by
  rw [upd_ne (fun e => by rw [e, h] at hc; exact n _ (Option.some.inj hc).symm)]
  exact hc
theorem EntOk.kp {C : Addr} {ns : List Str} {H H' : Hp} {e : Ent} (E : EntOk C ns H e) (k : KpN H H') : EntOk C ns H' e := by
  obtain ⟨⟨⟨dx, h1⟩, h2⟩, h3, h4, h5⟩ := E
  exact ⟨⟨⟨dx, k _ _ h1 fun _ z => by cases z⟩, k _ _ h2 fun _ z => by cases z⟩, k _ _ h3 (fun _ z => by cases z), h4, h5⟩
theorem StAt.same {st g : Addr} {H H' : Hp} (S : StAt st g H) (s : Same H H') : StAt st g H' := by
  obtain ⟨ns, x, y, z, h1, h2, h3, h4⟩ := S
  exact ⟨ns, x, y, z, s _ _ h1, h2, s _ _ h3, h4⟩
structure Wd (C st g nl : Addr) (ns : List Str) (el tl : Addr) (L : List Ent) (H : Hp) : Prop where
  st_ : StAt st g H
  nm : NmAt st g nl ns H
  ok : NamesOk ns
  el_ : H el = some (.lst (L.map fun e => V.ref e.p))
  tl_ : H tl = some (.lst (L.map fun e => V.ref e.a))
  ne : el ≠ st ∧ el ≠ g ∧ el ≠ nl ∧ tl ≠ st ∧ tl ≠ g ∧ tl ≠ nl ∧ el ≠ tl
  en : ∀ e ∈ L, EntOk C ns H e
theorem Wd.step {C st g nl : Addr} {ns : List Str} {el tl : Addr} {L : List Ent} {H H' : Hp} (W : Wd C st g nl ns el tl L H) (k : Kp st g H H') (S : StAt st g H') : Wd C st g nl ns el tl L H' :=
  ⟨S, W.nm.kp k, W.ok, k _ _ W.el_ W.ne.1 W.ne.2.1, k _ _ W.tl_ W.ne.2.2.2.1 W.ne.2.2.2.2.1, W.ne, fun e he => (W.en e he).kp (KpN.kp W.st_ k)⟩
theorem Wd.same {C st g nl : Addr} {ns : List Str} {el tl : Addr} {L : List Ent} {H H' : Hp} (W : Wd C st g nl ns el tl L H) (s : Same H H') : Wd C st g nl ns el tl L H' := W.step (Kp.of s) (W.st_.same s)
theorem Wd.more {C st g nl : Addr} {ns : List Str} {el tl : Addr} {L : List Ent} {H1 H3 : Hp} {r dr t : Addr} {er ko : Tb} (W : Wd C st g nl ns el tl L H1) (hE : EnvAt C H1 r dr er) (s : Same (upd H1 el (.lst (L.map (fun e => V.ref e.p) ++ [V.ref r]))) H3)
    (ht : H3 t = some (.dK ko)) (To : TabOk ns ko) (asc : Asc ko er) : Wd C st g nl ns el tl (L ++ [⟨r, dr, t, er, ko⟩]) (upd H3 tl (.lst (L.map (fun e => V.ref e.a) ++ [V.ref t]))) := by
  obtain ⟨n1, n2, n3, n4, n5, n6, n7⟩ := W.ne
  have k1 : KpN H1 (upd H1 el (.lst (L.map (fun e => V.ref e.p) ++ [V.ref r]))) := KpN.upd W.el_
  have h3 : H3 tl = some (.lst (L.map fun e => V.ref e.a)) := s _ _ (by rw [upd_ne n7.symm]; exact W.tl_)
  have k3 : KpN H1 (upd H3 tl (.lst (L.map (fun e => V.ref e.a) ++ [V.ref t]))) := k1.trans ((KpN.of s).trans (KpN.upd h3))
  refine ⟨(((W.st_.other n1 n2).same s).other n4 n5), ⟨?_, W.nm.n1, W.nm.n2⟩, W.ok, ?_, ?_, W.ne, fun e he => ?_⟩
  · rw [upd_ne n6.symm]
    exact s _ _ (by rw [upd_ne n3.symm]; exact W.nm.at_)
  · rw [upd_ne n7, List.map_append]
    exact s _ _ upd_same
  · rw [upd_same, List.map_append]
    rfl
  · rcases List.mem_append.mp he with he | he
    · exact (W.en e he).kp k3
    · rw [List.mem_singleton.mp he]
      obtain ⟨⟨dx, h1⟩, h2⟩ := hE
      exact ⟨⟨⟨dx, k3 _ _ h1 fun _ z => by cases z⟩, k3 _ _ h2 fun _ z => by cases z⟩, KpN.upd h3 _ _ ht (fun _ z => by cases z), asc, To⟩
def spGrow (C : Addr) : Sp := fun vs H Q _ => ∃ st g nl el tl ns L, vs = [.ref st, .ref nl, .ref el, .ref tl] ∧ Wd C st g nl ns el tl L H ∧ 1 ≤ L.length ∧ L.length ≤ 60 ∧ ∀ e H', Wd C st g nl ns el tl (L ++ [e]) H' → KpN H H' → Q .non H'
/-- the operators of Env -/
structure EnvO (K : PySem.W.Frag) (C fOr fRor fSub : Addr) : Prop where
  sf : PySem.W.selfFirst K C = true
  o : Meth K C "__or__" fOr
  r : Meth K C "__ror__" fRor
  s : Meth K C "__sub__" fSub
  n : NoAttr K C "__rsub__"
  sub : ∀ T, OrT T → PySem.W.subIn K (.ref C) (.type T) = some false
theorem raw0 {P : Program} {w : World} {K : PySem.W.Frag} {mg : Str → Option Value} {base : Heap} {CX : CXT} {k : Nat} {f : Addr} {fd : FuncData} {ps : List Str} {sp : Sp} (F : FnOk P w K mg base CX k f fd ps sp) (hb : Binds K fd ps []) : FnR P w K mg base CX k f sp :=
  (F.raw hb .nil).imp fun vs H Q E h => by rw [List.append_nil]; exact h
abbrev rLenSq (K : PySem.W.Frag) : List V → Hp → VK → Prop := fun xs H Q => ∃ p ys, xs = [V.ref p] ∧ (SqL K H p ys ∨ SqT K H p ys) ∧ Q (.int ys.length) H
theorem du_or : PySem.dunder (Operator.BitOr).info.2 = "__or__" := by decide +kernel
theorem du_ror : dunderR (Operator.BitOr).info.2 = "__ror__" := by decide +kernel
theorem du_sub : PySem.dunder (Operator.Sub).info.2 = "__sub__" := by decide +kernel
theorem du_rsub : dunderR (Operator.Sub).info.2 = "__rsub__" := by decide +kernel
section
variable {P : Program} {w : World} {K : PySem.W.Frag} {mg : Str → Option Value} {base : Heap} {C CN : Addr}
section
variable {X : Cx} {fOr fRor fSub : Addr} {n : Nat} {CX : CXT} {E : XK}
theorem op_envOr (O : EnvO X.K C fOr fRor fSub) (F : FnR X.prog X.w X.K X.mg X.base CX n fOr (spOr X.K C CN false)) (hr : Room n X.A) (hx : Passes CX X E) : OpR X (binaryOp .BitOr) (rOwnL X.K C .BitOr (spOr X.K C CN false) E) :=
  op_left (rc := some (.ref fRor)) O.sf (by rw [du_or]; exact O.o.at_) O.o.fn (by rw [du_ror]; exact O.r.at_) (.inr ⟨fRor, rfl⟩) F hr hx
theorem op_envRor (O : EnvO X.K C fOr fRor fSub) (F : FnR X.prog X.w X.K X.mg X.base CX n fRor (spOr X.K C CN true)) (hr : Room n X.A) (hx : Passes CX X E) : OpR X (binaryOp .BitOr) (rOwnR X.K C (spOr X.K C CN true) E) :=
  op_right O.sf (by rw [du_or]; exact O.o.at_) (by rw [du_ror]; exact O.r.at_) O.r.fn O.sub F hr hx
theorem op_envSub (O : EnvO X.K C fOr fRor fSub) (F : FnR X.prog X.w X.K X.mg X.base CX n fSub (spSel X.K C false)) (hr : Room n X.A) (hx : Passes CX X E) : OpR X (binaryOp .Sub) (rOwnL X.K C .Sub (spSel X.K C false) E) :=
  op_left (rc := none) O.sf (by rw [du_sub]; exact O.s.at_) O.s.fn (by rw [du_rsub]; exact O.n) (.inl rfl) F hr hx
end
theorem scGrow : FnScope ["_law_state_here", "_law_names_here", "_law_envs", "_law_tables", "_law_a", "_law_b", "_law_way", "_law_fresh", "_law_picked", "_law_k"] ["_law_state_here", "_law_names_here", "_law_envs", "_law_tables"] (defScope sGrow) := ⟨rfl, rfl, rfl, by decide +kernel, rfl, by decide +kernel, by decide +kernel⟩
theorem ok_grow {f fD fT fV fA fO fI fOr fRor fSub : Addr} {fd fdD fdT fdV fdA fdO fdI fdOr fdRor fdSub : FuncData} (F : Fun K "_law_grow" "_law_grow" sGrow f fd) (M : Mg K mg) (T : EnvT K mg C) (OP : EnvO K C fOr fRor fSub)
    (GD : FnOk P w K mg base CX0 1 fD fdD ["_law_state_here", "_law_many"] spDraw) (mD : mg "_law_draw" = some (.ref fD)) (kD : PySem.W.keepIn K (.ref fD) = true) (bD : Binds K fdD ["_law_state_here", "_law_many"] [])
    (GT : FnOk P w K mg base CX0 3 fT fdT ["_law_state_here", "_law_names_here"] spTable) (mT : mg "_law_table" = some (.ref fT)) (kT : PySem.W.keepIn K (.ref fT) = true) (bT : Binds K fdT ["_law_state_here", "_law_names_here"] [])
    (GV : FnOk P w K mg base CX0 1 fV fdV ["_law_low", "_law_high"] spOver) (mV : mg "_law_over" = some (.ref fV)) (kV : PySem.W.keepIn K (.ref fV) = true) (bV : Binds K fdV ["_law_low", "_law_high"] [])
    (GA : FnOk P w K mg base CX0 1 fA fdA ["_law_table_here", "_law_names_here", "_law_inside"] (spPart K)) (mA : mg "_law_part" = some (.ref fA)) (kA : PySem.W.keepIn K (.ref fA) = true) (bA : Binds K fdA ["_law_table_here", "_law_names_here", "_law_inside"] [])
    (GO : FnOk P w K mg base CX0 7 fO fdO ["self", "names"] (spSel K C true)) (mO : Meth K C "only" fO) (bO : Binds K fdO ["self", "names"] [])
    (MI : Mk K C fI) (GI : FnOk P w K mg base CX0 5 fI fdI ["self", "bindings"] (spInit C)) (bI : Binds K fdI ["self", "bindings"] [])
    (GOr : FnOk P w K mg base (L2.CX P w) 7 fOr fdOr ["self", "other"] (spOr K C CN false)) (bOr : Binds K fdOr ["self", "other"] [])
    (GRo : FnOk P w K mg base (L2.CX P w) 7 fRor fdRor ["self", "other"] (spOr K C CN true)) (bRo : Binds K fdRor ["self", "other"] [])
    (GSu : FnOk P w K mg base CX0 7 fSub fdSub ["self", "names"] (spSel K C false)) (bSu : Binds K fdSub ["self", "names"] []) :
    FnOk P w K mg base CX0 8 f fd ["_law_state_here", "_law_names_here", "_law_envs", "_law_tables"] (spGrow C) := by
  refine F.ok scGrow (fun vs H Q E h => ?_) (fun cdv A outer s H vs Q E hr h => ?_)
  · obtain ⟨st, g, nl, el, tl, ns, L, rfl, _⟩ := h
    rfl
  · obtain ⟨st, g, nl, el, tl, ns, L, rfl, W, l0, l1, k⟩ := h
    have hr1 : Room 1 _ := hr.mono (by decide)
    have hr3 : Room 3 _ := hr.mono (by decide)
    have hr6 : Room 6 _ := hr.mono (by decide)
    have OL := op_envOr (X := (cxOf CX0 P w K mg base ["_law_state_here", "_law_names_here", "_law_envs", "_law_tables", "_law_a", "_law_b", "_law_way", "_law_fresh", "_law_picked", "_law_k"] "_law_grow" (defScope sGrow) f cdv A outer s H E).nox) (E := E0) OP (raw0 GOr bOr) hr passL
    have OR := op_envRor (X := (cxOf CX0 P w K mg base ["_law_state_here", "_law_names_here", "_law_envs", "_law_tables", "_law_a", "_law_b", "_law_way", "_law_fresh", "_law_picked", "_law_k"] "_law_grow" (defScope sGrow) f cdv A outer s H E).nox) (E := E0) OP (raw0 GRo bRo) hr passL
    have OS := op_envSub (X := (cxOf CX0 P w K mg base ["_law_state_here", "_law_names_here", "_law_envs", "_law_tables", "_law_a", "_law_b", "_law_way", "_law_fresh", "_law_picked", "_law_k"] "_law_grow" (defScope sGrow) f cdv A outer s H E).nox) (E := E0) OP (raw0 GSu bSu) hr pass0
    refine ⟨_, pss_cons (ps_set (i := 4) scGrow.nd rfl (Or.inl rfl) (pe_call GD hr1 rfl mD kD bD .nil pass0 (pa_cons (pv 0) (pa_cons (pe_callB call_len_seq (by rfl) M.len PySem.boot_len (pa_cons (pv 2) pa_nil)) pa_nil))))
      (pss_cons (ps_set (i := 5) scGrow.nd rfl (Or.inl rfl) (pe_call GD hr1 rfl mD kD bD .nil pass0 (pa_cons (pv 0) (pa_cons (pe_callB call_len_seq (by rfl) M.len PySem.boot_len (pa_cons (pv 2) pa_nil)) pa_nil))))
      (pss_cons (ps_set (i := 6) scGrow.nd rfl (Or.inl rfl) (pe_call GD hr1 rfl mD kD bD .nil pass0 (pa_cons (pv 0) (pa_cons pe_int pa_nil))))
      (pss_cons (ps_set (i := 7) scGrow.nd rfl (Or.inl rfl) (pe_call GT hr3 rfl mT kT bT .nil pass0 (pa_cons (pv 0) (pa_cons (pv 1) pa_nil))))
      (pss_cons (ps_setLc (i := 8) (own := [("_law_k", 9)]) (g := gName 9) (tt := tYes) (by rfl) scGrow.nd rfl rfl (sw_true rfl rfl rfl (by decide +kernel)) (pi_range1 rfl M.rng (pa_cons (pe_call GD hr1 rfl mD kD bD .nil pass0 (pa_cons (pv 0) (pa_cons pe_int pa_nil))) pa_nil)) (blkOk_by (own := [("_law_k", 9)]) (N := ["_law_state_here", "_law_names_here", "_law_envs", "_law_tables", "_law_a", "_law_b", "_law_way", "_law_fresh", "_law_picked", "_law_k"]) (sc := defScope sGrow) (by decide +kernel))
          (fun _ _ _ _ _ => pg_name (i := 9) scGrow.nd rfl (Or.inl rfl)) (fun _ _ _ _ _ => pts_nil) (fun _ _ _ _ _ => pe_ix (r := rIxL K) ix_list (pv 1) (pe_call GD hr1 rfl mD kD bD .nil pass0 (pa_cons (pv 0) (pa_cons (pe_callB (r := rLenSq K) call_len_seq (by rfl) M.len PySem.boot_len (pa_cons (pv 1) pa_nil)) pa_nil))) (fun _ _ => rfl)))
      (pss_one (ps_if (pt_cmpR op_eq (pv 6) pe_int (nomark _)) (pss_cons (ps_expr (pe_bm PySem.F.plainAttrs_list PySem.F.slot_list_append PySem.F.type_list_append mt_append (pv 2) (pa_cons (pe_op OL (pe_ix ix_list (pv 2) (pv 4) (fun _ _ => rfl)) (pe_ix ix_list (pv 2) (pv 5) (fun _ _ => rfl))) pa_nil))) (pss_one (ps_expr (pe_bm PySem.F.plainAttrs_list PySem.F.slot_list_append PySem.F.type_list_append mt_append (pv 3) (pa_cons (pe_call GV hr1 rfl mV kV bV .nil pass0 (pa_cons (pe_ix ix_list (pv 3) (pv 4) (fun _ _ => rfl)) (pa_cons (pe_ix ix_list (pv 3) (pv 5) (fun _ _ => rfl)) pa_nil))) pa_nil)))))
        (pss_one (ps_if (pt_cmpR op_eq (pv 6) pe_int (nomark _)) (pss_cons (ps_expr (pe_bm PySem.F.plainAttrs_list PySem.F.slot_list_append PySem.F.type_list_append mt_append (pv 2) (pa_cons (pe_op OL (pe_ix ix_list (pv 2) (pv 4) (fun _ _ => rfl)) (pe_callTy call_dictD (by rfl) M.dct (by decide +kernel) (pa_cons (pv 7) pa_nil))) pa_nil))) (pss_one (ps_expr (pe_bm PySem.F.plainAttrs_list PySem.F.slot_list_append PySem.F.type_list_append mt_append (pv 3) (pa_cons (pe_call GV hr1 rfl mV kV bV .nil pass0 (pa_cons (pe_ix ix_list (pv 3) (pv 4) (fun _ _ => rfl)) (pa_cons (pv 7) pa_nil))) pa_nil)))))
        (pss_one (ps_if (pt_cmpR op_eq (pv 6) pe_int (nomark _)) (pss_cons (ps_expr (pe_bm PySem.F.plainAttrs_list PySem.F.slot_list_append PySem.F.type_list_append mt_append (pv 2) (pa_cons (pe_op OR (pe_callTy call_dictD (by rfl) M.dct (by decide +kernel) (pa_cons (pv 7) pa_nil)) (pe_ix ix_list (pv 2) (pv 4) (fun _ _ => rfl))) pa_nil))) (pss_one (ps_expr (pe_bm PySem.F.plainAttrs_list PySem.F.slot_list_append PySem.F.type_list_append mt_append (pv 3) (pa_cons (pe_call GV hr1 rfl mV kV bV .nil pass0 (pa_cons (pv 7) (pa_cons (pe_ix ix_list (pv 3) (pv 4) (fun _ _ => rfl)) pa_nil))) pa_nil)))))
        (pss_one (ps_if (pt_cmpR op_eq (pv 6) pe_int (nomark _)) (pss_cons (ps_expr (pe_bm PySem.F.plainAttrs_list PySem.F.slot_list_append PySem.F.type_list_append mt_append (pv 2) (pa_cons (pe_op OS (pe_ix ix_list (pv 2) (pv 4) (fun _ _ => rfl)) (pv 8)) pa_nil))) (pss_one (ps_expr (pe_bm PySem.F.plainAttrs_list PySem.F.slot_list_append PySem.F.type_list_append mt_append (pv 3) (pa_cons (pe_call GA hr1 rfl mA kA bA .nil pass0 (pa_cons (pe_ix ix_list (pv 3) (pv 4) (fun _ _ => rfl)) (pa_cons (pv 8) (pa_cons pe_bl pa_nil)))) pa_nil)))))
        (pss_one (ps_if (pt_cmpR op_eq (pv 6) pe_int (nomark _)) (pss_cons (ps_expr (pe_bm PySem.F.plainAttrs_list PySem.F.slot_list_append PySem.F.type_list_append mt_append (pv 2) (pa_cons (pe_meth (pe_ix ix_list (pv 2) (pv 4) (fun _ _ => rfl)) T.cl mO GO hr bO .nil pass0 (pa_cons (pe_callTy call_tuple_of (by rfl) M.tup (by decide +kernel) (pa_cons (pv 8) pa_nil)) pa_nil)) pa_nil))) (pss_one (ps_expr (pe_bm PySem.F.plainAttrs_list PySem.F.slot_list_append PySem.F.type_list_append mt_append (pv 3) (pa_cons (pe_call GA hr1 rfl mA kA bA .nil pass0 (pa_cons (pe_ix ix_list (pv 3) (pv 4) (fun _ _ => rfl)) (pa_cons (pv 8) (pa_cons pe_bl pa_nil)))) pa_nil)))))
        (pss_cons (ps_expr (pe_bm PySem.F.plainAttrs_list PySem.F.slot_list_append PySem.F.type_list_append mt_append (pv 2) (pa_cons (pe_make MI GI hr6 rfl T.mgE bI .nil pass0 (pa_cons (pe_ix ix_list (pv 2) (pv 4) (fun _ _ => rfl)) pa_nil)) pa_nil))) (pss_one (ps_expr (pe_bm PySem.F.plainAttrs_list PySem.F.slot_list_append PySem.F.type_list_append mt_append (pv 3) (pa_cons (pe_callTy call_dictD (by rfl) M.dct (by decide +kernel) (pa_cons (pe_ix ix_list (pv 3) (pv 4) (fun _ _ => rfl)) pa_nil)) pa_nil))))))))))))))))))), ?_⟩
    have len1 : ∀ {α : Type} (f : Ent → α), (0 : Int) < ((L.map f).length : Int) ∧ ((L.map f).length : Int) ≤ 10 ^ 30 := fun f => by
      rw [List.length_map]
      exact nat_draw l0 (by omega)
    refine ⟨_, rfl, _, rfl, el, _, rfl, .inl (SqL.of W.el_), st, g, _, rfl, (len1 _).1, (len1 _).2, W.st_, fun ra H1 ra0 ra1 S1 k1 => ?_⟩
    have W1 := W.step k1 S1
    refine ⟨_, rfl, _, rfl, el, _, rfl, .inl (SqL.of W1.el_), st, g, _, rfl, (len1 _).1, (len1 _).2, S1, fun rb H2 rb0 rb1 S2 k2 => ?_⟩
    have W2 := W1.step k2 S2
    refine ⟨_, rfl, st, g, 6, rfl, by decide, by decide, S2, fun way H3 w0 w1 S3 k3 => ?_⟩
    have W3 := W2.step k3 S3
    refine ⟨_, rfl, _, rfl, st, g, nl, ns, rfl, S3, W3.nm, W3.ok, fun df kf H4 hdf hf4 Tf S4 k4 => ?_⟩
    have W4 := W3.step k4 S4
    refine ⟨_, rfl, st, g, 4, rfl, by decide, by decide, S4, fun r5 H5 r50 r51 S5 k5 => ?_⟩
    have W5 := W4.step k5 S5
    obtain ⟨n, rfl⟩ : ∃ n : Nat, r5 = n := ⟨r5.toNat, by omega⟩
    refine ⟨n, rfl, by omega, by omega, fun D hD => ?_⟩
    obtain ⟨nst, ng⟩ := S5.neq hD
    refine lc_range (lo := 0) (n := n) (fun i H7 => ∃ zs : List Str, H7 D = some (.lst (zs.map V.str)) ∧ zs.length = i ∧ StAt st g H7 ∧ Kp st g H5 H7) ⟨[], upd_same, rfl, S5.fresh hD, Kp.of (same_new hD)⟩ ?_ ?_
    · rintro i H7 hi ⟨zs, hL, hn, S7, k7⟩
      refine ⟨rfl, ?_⟩
      refine iteT (B := True) ?_
      refine iteT ?_
      refine ⟨_, rfl, _, rfl, _, rfl, nl, _, rfl, .inl (SqL.of (W5.nm.kp k7).at_), st, g, _, rfl, ?_, ?_, S7, fun r8 H8 r80 r81 S8 k8 => ?_⟩
      · rw [List.length_map]; exact (nat_draw W.ok.1 (Nat.le_trans W.ok.2.1 (by decide))).1
      · rw [List.length_map]; exact (nat_draw W.ok.1 (Nat.le_trans W.ok.2.1 (by decide))).2
      rw [List.length_map] at r81
      obtain ⟨z, hz, hz1, _⟩ := get_lt r80 r81
      refine ⟨nl, _, _, _, rfl, rfl, SqL.of (W5.nm.kp (k7.trans k8)).at_, atI_map V.str hz1, _, k8 _ _ hL nst ng, (by rw [List.length_map]; exact small1000 (by omega)), zs ++ [z], ?_, ?_, S8.other nst ng, fun b o hb x1 x2 => ?_⟩
      · rw [upd_same, List.map_append]
        rfl
      · rw [List.length_append, hn]
        rfl
      · rw [upd_ne (ne_of_none hb hD)]
        exact k8 _ _ (k7 _ _ hb x1 x2) x1 x2
    · rintro H7 ⟨zs, hDz, hn, S7, k7⟩
      have W7 := W5.step k7 S7
      have kn : KpN H H7 := (KpN.kp W.st_ k1).trans ((KpN.kp S1 k2).trans ((KpN.kp S2 k3).trans ((KpN.kp S3 k4).trans ((KpN.kp S4 k5).trans (KpN.kp S5 k7)))))
      have hf : H7 df = some (.dK kf) := k7.at S5 (k5.at S4 hf4 (fun _ z => by cases z)) (fun _ z => by cases z)
      rw [List.length_map] at ra1 rb1
      obtain ⟨ea, hea, ata, _⟩ := get_lt ra0 ra1
      obtain ⟨eb, heb, atb, _⟩ := get_lt rb0 rb1
      obtain ⟨Ea, ta, ca, oa⟩ := W7.en ea hea
      obtain ⟨Eb, tb, cb, ob⟩ := W7.en eb heb
      obtain ⟨⟨dxa, hpa⟩, hda⟩ := id Ea
      obtain ⟨⟨dxb, hpb⟩, hdb⟩ := id Eb
      obtain ⟨n1, n2, n3, n4, n5, n6, n7⟩ := W7.ne
      have szl : ∀ {α : Type} (f : Ent → α), (L.map f).length < sizeLine := fun f => by rw [List.length_map]; exact small1000 (by omega)
      have k8 : ∀ (r : Addr) (H8 : Hp), Same H7 H8 → KpN H7 (upd H8 el (.lst (L.map (fun e => V.ref e.p) ++ [V.ref r]))) := fun r H8 s8 => (KpN.of s8).trans (KpN.upd (s8 _ _ W7.el_))
      have t8 : ∀ (r : Addr) (H8 : Hp), Same H7 H8 → upd H8 el (.lst (L.map (fun e => V.ref e.p) ++ [V.ref r])) tl = some (.lst (L.map fun e => V.ref e.a)) := fun r H8 s8 => by
        rw [upd_ne n7.symm]
        exact s8 _ _ W7.tl_
      have z8 : ∀ (r : Addr) (H8 : Hp), Same H7 H8 → D ≠ el → upd H8 el (.lst (L.map (fun e => V.ref e.p) ++ [V.ref r])) D = some (.lst (zs.map V.str)) := fun r H8 s8 n => by
        rw [upd_ne n]
        exact s8 _ _ hDz
      have nDel : D ≠ el := fun e => by
        rw [e, W5.el_] at hD
        cases hD
      have fin : ∀ (r dr t : Addr) (er ko : Tb) (H8 H9 : Hp), EnvAt C H8 r dr er → Same H7 H8 → Same (upd H8 el (.lst (L.map (fun e => V.ref e.p) ++ [V.ref r]))) H9 → H9 t = some (.dK ko) → TabOk ns ko → Asc ko er →
          Q .non (upd H9 tl (.lst (L.map (fun e => V.ref e.a) ++ [V.ref t]))) := fun r dr t er ko H8 H9 hE s8 s9 ht To asc =>
        k _ _ ((W7.same s8).more hE s9 ht To asc) (kn.trans ((k8 r H8 s8).trans ((KpN.of s9).trans (KpN.upd (s9 _ _ (t8 r H8 s8))))))
      refine ⟨_, rfl, rfl, _, rfl, ?_⟩
      refine ite2 (fun _ => ?_) (fun _ => ?_)
      · -- env | env
        refine ⟨_, rfl, .inl ⟨rfl, _, SqL.of W7.el_⟩, _, rfl, _, rfl, el, _, _, _, rfl, rfl, SqL.of W7.el_, atI_map (fun e => V.ref e.p) ata, _, rfl, _, rfl, el, _, _, _, rfl, rfl, SqL.of W7.el_, atI_map (fun e => V.ref e.p) atb, ?_⟩
        refine ⟨ea.p, dxa, _, rfl, hpa, .inl ⟨eb.p, dxb, _, rfl, hpb⟩, ea.p, ea.d, ea.es, ea.ka, ns, .ref eb.p, rfl, W.ok, Ea, ca, oa, .inl ⟨eb.ka, ⟨ob, .inl ⟨eb.p, eb.d, eb.es, rfl, Eb, cb⟩⟩, fun r dr er H8 hr8 hdr8 hE asc s8 => ?_⟩⟩
        have asc : Asc (mergeK ea.ka eb.ka) er := asc
        refine ⟨el, _, _, rfl, rfl, s8 _ _ W7.el_, szl _, ?_⟩
        refine ⟨_, rfl, .inl ⟨rfl, _, SqL.of (t8 r H8 s8)⟩, _, rfl, _, rfl, tl, _, _, _, rfl, rfl, SqL.of (t8 r H8 s8), atI_map (fun e => V.ref e.a) ata, _, rfl, _, rfl, tl, _, _, _, rfl, rfl, SqL.of (t8 r H8 s8), atI_map (fun e => V.ref e.a) atb, ?_⟩
        refine ⟨ea.a, eb.a, ea.ka, eb.ka, ns, rfl, W.ok, k8 r H8 s8 _ _ ta (fun _ z => by cases z), k8 r H8 s8 _ _ tb (fun _ z => by cases z), oa, ob, fun t H9 ht ht9 s9 => ?_⟩
        exact ⟨tl, _, _, rfl, rfl, s9 _ _ (t8 r H8 s8), szl _, fin r dr t er _ H8 H9 hE s8 s9 ht9 (oa.merge ob) asc⟩
      refine ⟨_, rfl, rfl, _, rfl, ?_⟩
      refine ite2 (fun _ => ?_) (fun _ => ?_)
      · -- env | dict
        refine ⟨_, rfl, .inl ⟨rfl, _, SqL.of W7.el_⟩, _, rfl, _, rfl, el, _, _, _, rfl, rfl, SqL.of W7.el_, atI_map (fun e => V.ref e.p) ata, _, rfl, df, kf, rfl, .inl hf, fun c hc => ?_⟩
        have sc := same_new (o := .dK kf) hc
        refine ⟨ea.p, dxa, _, rfl, sc _ _ hpa, .inr ⟨"dict", .base (.dK upd_same), binT_or K C .dict⟩, ea.p, ea.d, ea.es, ea.ka, ns, .ref c, rfl, W.ok, Ea.same sc, ca, oa, .inl ⟨kf, ⟨Tf, .inr ⟨c, rfl, upd_same⟩⟩, fun r dr er H8 hr8 hdr8 hE asc s8' => ?_⟩⟩
        have s8 : Same H7 H8 := sc.trans s8'
        have asc : Asc (mergeK ea.ka kf) er := asc
        refine ⟨el, _, _, rfl, rfl, s8 _ _ W7.el_, szl _, ?_⟩
        refine ⟨_, rfl, .inl ⟨rfl, _, SqL.of (t8 r H8 s8)⟩, _, rfl, _, rfl, tl, _, _, _, rfl, rfl, SqL.of (t8 r H8 s8), atI_map (fun e => V.ref e.a) ata, _, rfl, ?_⟩
        refine ⟨ea.a, df, ea.ka, kf, ns, rfl, W.ok, k8 r H8 s8 _ _ ta (fun _ z => by cases z), k8 r H8 s8 _ _ hf (fun _ z => by cases z), oa, Tf, fun t H9 ht ht9 s9 => ?_⟩
        exact ⟨tl, _, _, rfl, rfl, s9 _ _ (t8 r H8 s8), szl _, fin r dr t er _ H8 H9 hE s8 s9 ht9 (oa.merge Tf) asc⟩
      refine ⟨_, rfl, rfl, _, rfl, ?_⟩
      refine ite2 (fun _ => ?_) (fun _ => ?_)
      · -- dict | env
        refine ⟨_, rfl, .inl ⟨rfl, _, SqL.of W7.el_⟩, _, rfl, df, kf, rfl, .inl hf, fun c hc => ?_⟩
        have sc := same_new (o := .dK kf) hc
        refine ⟨_, rfl, _, rfl, el, _, _, _, rfl, rfl, SqL.of (sc _ _ W7.el_), atI_map (fun e => V.ref e.p) ata, ?_⟩
        refine ⟨ea.p, dxa, _, rfl, sc _ _ hpa, ⟨"dict", .dict, .base (.dK upd_same)⟩, ea.p, ea.d, ea.es, ea.ka, ns, .ref c, rfl, W.ok, Ea.same sc, ca, oa, .inl ⟨kf, ⟨Tf, .inr ⟨c, rfl, upd_same⟩⟩, fun r dr er H8 hr8 hdr8 hE asc s8' => ?_⟩⟩
        have s8 : Same H7 H8 := sc.trans s8'
        have asc : Asc (mergeK kf ea.ka) er := asc
        refine ⟨el, _, _, rfl, rfl, s8 _ _ W7.el_, szl _, ?_⟩
        refine ⟨_, rfl, .inl ⟨rfl, _, SqL.of (t8 r H8 s8)⟩, _, rfl, _, rfl, _, rfl, tl, _, _, _, rfl, rfl, SqL.of (t8 r H8 s8), atI_map (fun e => V.ref e.a) ata, ?_⟩
        refine ⟨df, ea.a, kf, ea.ka, ns, rfl, W.ok, k8 r H8 s8 _ _ hf (fun _ z => by cases z), k8 r H8 s8 _ _ ta (fun _ z => by cases z), Tf, oa, fun t H9 ht ht9 s9 => ?_⟩
        exact ⟨tl, _, _, rfl, rfl, s9 _ _ (t8 r H8 s8), szl _, fin r dr t er _ H8 H9 hE s8 s9 ht9 (Tf.merge oa) asc⟩
      have prt : ∀ (r dr : Addr) (er : Tb) (ins : Bool), Asc (ea.ka.filter fun x => inK zs x.1 == ins) er → Asc (mergeK [] (ea.ka.filter fun x => inK zs x.1 == ins)) er ∧ TabOk ns (mergeK [] (ea.ka.filter fun x => inK zs x.1 == ins)) := fun r dr er ins asc => by
        have TF : TabOk ns (ea.ka.filter fun x => inK zs x.1 == ins) := oa.part fun k => inK zs k == ins
        exact ⟨asc.of (val_merge0 TF.nd).symm TF.nd (TabOk.merge (.nil ns) TF).nd, TabOk.merge (.nil ns) TF⟩
      refine ⟨_, rfl, rfl, _, rfl, ?_⟩
      refine ite2 (fun _ => ?_) (fun _ => ?_)
      · -- env - names
        refine ⟨_, rfl, .inl ⟨rfl, _, SqL.of W7.el_⟩, _, rfl, _, rfl, el, _, _, _, rfl, rfl, SqL.of W7.el_, atI_map (fun e => V.ref e.p) ata, _, rfl, ?_⟩
        refine ⟨ea.p, dxa, _, rfl, hpa, .inr ⟨"list", .base (.lst hDz), binT_subList K C⟩, ea.p, ea.d, ea.es, ea.ka, ns, D, zs, rfl, W.ok, Ea, ca, oa, .inl (SqL.of hDz), fun r dr er H8 hr8 hdr8 hE asc s8 => ?_⟩
        refine ⟨el, _, _, rfl, rfl, s8 _ _ W7.el_, szl _, ?_⟩
        refine ⟨_, rfl, .inl ⟨rfl, _, SqL.of (t8 r H8 s8)⟩, _, rfl, _, rfl, tl, _, _, _, rfl, rfl, SqL.of (t8 r H8 s8), atI_map (fun e => V.ref e.a) ata, _, rfl, ?_⟩
        refine ⟨ea.a, D, ea.ka, zs, ns, false, rfl, W.ok, k8 r H8 s8 _ _ ta (fun _ z => by cases z), oa, .inl (SqL.of (z8 r H8 s8 nDel)), fun t H9 ht ht9 s9 => ?_⟩
        obtain ⟨asc', T'⟩ := prt r dr er false asc
        exact ⟨tl, _, _, rfl, rfl, s9 _ _ (t8 r H8 s8), szl _, fin r dr t er _ H8 H9 hE s8 s9 ht9 T' asc'⟩
      refine ⟨_, rfl, rfl, _, rfl, ?_⟩
      refine ite2 (fun _ => ?_) (fun _ => ?_)
      · -- env.only(names)
        refine ⟨_, rfl, .inl ⟨rfl, _, SqL.of W7.el_⟩, _, rfl, _, rfl, el, _, _, _, rfl, rfl, SqL.of W7.el_, atI_map (fun e => V.ref e.p) ata, ea.p, dxa, _, rfl, hpa, rfl, _, rfl, D, _, rfl, .inl ⟨SqL.of hDz, fun c hc => ?_⟩⟩
        have sc := same_new (o := .tup (zs.map V.str)) hc
        refine ⟨ea.p, ea.d, ea.es, ea.ka, ns, c, zs, rfl, W.ok, Ea.same sc, ca, oa, .inr (SqT.of upd_same), fun r dr er H8 hr8 hdr8 hE asc s8' => ?_⟩
        have s8 : Same H7 H8 := sc.trans s8'
        refine ⟨el, _, _, rfl, rfl, s8 _ _ W7.el_, szl _, ?_⟩
        refine ⟨_, rfl, .inl ⟨rfl, _, SqL.of (t8 r H8 s8)⟩, _, rfl, _, rfl, tl, _, _, _, rfl, rfl, SqL.of (t8 r H8 s8), atI_map (fun e => V.ref e.a) ata, _, rfl, ?_⟩
        refine ⟨ea.a, D, ea.ka, zs, ns, true, rfl, W.ok, k8 r H8 s8 _ _ ta (fun _ z => by cases z), oa, .inl (SqL.of (z8 r H8 s8 nDel)), fun t H9 ht ht9 s9 => ?_⟩
        obtain ⟨asc', T'⟩ := prt r dr er true asc
        exact ⟨tl, _, _, rfl, rfl, s9 _ _ (t8 r H8 s8), szl _, fin r dr t er _ H8 H9 hE s8 s9 ht9 T' asc'⟩
      · -- Env(env)
        refine ⟨_, rfl, .inl ⟨rfl, _, SqL.of W7.el_⟩, _, rfl, _, rfl, el, _, _, _, rfl, rfl, SqL.of W7.el_, atI_map (fun e => V.ref e.p) ata, ?_⟩
        intro r dx nr ndx ne
        have sc : Same H7 (upd (upd H7 dx (.own r)) r (.ins C dx [])) := fun b o hb => by
          rw [upd_ne (ne_of_none hb nr), upd_ne (ne_of_none hb ndx)]
          exact hb
        refine ⟨r, dx, .ref ea.p, ea.ka, ns, rfl, upd_same, W.ok, ⟨oa, .inl ⟨ea.p, ea.d, ea.es, rfl, Ea.same sc, ca⟩⟩, fun dr er H8 hdr8 hE asc kp => ⟨rfl, ?_⟩⟩
        have s8 : Same H7 H8 := fun b o hb => kp b o (sc _ _ hb) (ne_of_none hb nr)
        refine ⟨el, _, _, rfl, rfl, s8 _ _ W7.el_, szl _, ?_⟩
        refine ⟨_, rfl, .inl ⟨rfl, _, SqL.of (t8 r H8 s8)⟩, _, rfl, _, rfl, tl, _, _, _, rfl, rfl, SqL.of (t8 r H8 s8), atI_map (fun e => V.ref e.a) ata, ea.a, ea.ka, rfl, .inl (k8 r H8 s8 _ _ ta (fun _ z => by cases z)), fun t ht => ?_⟩
        have s9 := same_new (o := .dK ea.ka) ht
        exact ⟨tl, _, _, rfl, rfl, s9 _ _ (t8 r H8 s8), szl _, fin r dr t er _ H8 _ hE s8 s9 upd_same oa asc⟩
end
end K31
set_option Elab.async false
set_option linter.all false
set_option maxRecDepth 100000
set_option maxHeartbeats 4000000
/-! f(lambda: body, x): a lambda without parameters and a name, handed to a def. -/
namespace K31
open PySem PySem.Spec PyProof.Rows L2 LamX

section
variable {X : Cx} {pins : List (Addr × Obj)} {σ : L2.St} {H : Hp} {s : Shared}
/-- a(), in the def that got the lambda: what is raised is wished for at that def's slots -/
theorem pe_actS {CXg : CXT} {Eg : XK} {Ng : List Str} {qg : Str} {sg : Scope} {g f c' : Addr} {cdg pm ctv : Value} {params : Arguments} {body : Expr} {scope : Scope} {k i : Nat} {a : Str} {pn : List (Addr × Obj)} {xe : Value → Shared → Prop} {W : WX} {tb : XK → TE} {p1 p2 : Pos}
    (I : Inv X pins σ H s) (L : LamS X.env.scope scope) (hf : s.heap.get? f = some (PySem.W.kla_obj "<lambda>" (X.env.qual ++ "<lambda>") params body scope (cloFrom X.env.cells scope.names []) pm c' ctv)) (hfn : H f = none) (hfr : f ∉ frs X.stack)
    (hbind : bindArgs (PySem.W.kla_fn "<lambda>" (X.env.qual ++ "<lambda>") params body scope (cloFrom X.env.cells scope.names []) pm (.ref c') ctv) ⟨[], []⟩ = pure [])
    (tk : Takes ((cxOf CXg X.prog X.w X.K X.mg X.base Ng qg sg g cdg X.A X.stack s H Eg).tr pn xe) W) (hr : Room (k + 1) (X.A.deeper (envOfC qg sg s.heap.objs.size g cdg)))
    (hbody : ∀ (A : Around) (outer : List Env) (s : Shared) (H : Hp) (E : XK), Room k (A.deeper (lamEnv X scope s.heap.objs.size f c')) → PE (lamCx X A outer s H E scope f c') body (tb E))
    (hN : Ng[i]? = some a) (hv : Vis sg a) (hd : (a == ("__debug__" : Str)) = false := by decide) (hcd : (a == ("__classdict__" : Str)) = false := by decide) :
    PE ((cxOf CXg X.prog X.w X.K X.mg X.base Ng qg sg g cdg X.A X.stack s H Eg).tr pn xe) (.Call (.Name a p1) [] [] p2)
      (fun σZ HZ Q => ∃ E : XK, (∀ cls d H', E cls d H' → W cls d σZ H') ∧ σZ[i]? = some (some (.ref f)) ∧ HZ c' = some (CodeO c' (X.env.qual ++ "<lambda>")) ∧ tb E σ HZ Q) := by
  refine ⟨fun pinsZ sZ σZ HZ Q IZ h => ?_⟩
  obtain ⟨E, hW, hs, hc, ht⟩ := h
  refine wpAny_Call_Name_kw (thn ((pe_var (pos := p1) (i := i) hN hv hd hcd).run pinsZ sZ σZ HZ (fun v H1 => v = .ref f ∧ H1 = HZ) IZ ⟨.ref f, hs, rfl, rfl⟩) fun u s1 ⟨v, H1, I1, r1, q1⟩ => ?_)
  obtain ⟨ev, eH⟩ := q1
  subst ev
  rw [eH] at I1
  obtain rfl : u = Value.ref f := r1
  have of1 : s1.heap.get? f = some (PySem.W.kla_obj "<lambda>" (X.env.qual ++ "<lambda>") params body scope (cloFrom X.env.cells scope.names []) pm c' ctv) := I1.base.keep f _ hf hfn hfr (fun z => nomatch (show f ∈ ([] : List Addr) from z))
  refine PySem.W.callWith_F0 ⟨_, _, _, _, of1⟩ ?_
  have un : Un (frs X.stack) [] H HZ s.heap s1.heap := I1.base
  obtain ⟨⟨oc, vs, t, hoc, hdc, hvc⟩, _, _⟩ := I1.hok c' _ hc
  have rc : codeAny (model X.prog X.w) (X.A.deeper (envOfC qg sg s.heap.objs.size g cdg)) (.call (.ref f) ⟨[], []⟩) (CR (L2.CX X.prog X.w) (envOfC qg sg s.heap.objs.size g cdg :: X.stack) X.prog X.w HZ s1 Q E) s1 := by
    refine PySem.W.kla_callFunE hr.depth of1 rfl L.co L.gen rfl ⟨c', oc, vs, t, rfl, hoc, hdc, hvc⟩ ?_
    rw [hbind]
    refine wpAny_pure (wpAny_newFunctionEnv (fun y hy => (L.own y hy).2) (fun y hy => absurd hy (by simp)) (fun h₁ hns hsb => ⟨I1.nolimit.fresh _ hsb, ?_⟩) L.kind)
    show codeAny _ _ (.expr body (lamEnv X scope s1.heap.objs.size f c')) _ _
    have kp : ∀ b o, s1.heap.get? b = some o → h₁.get? b = some o := fun b o e => hsb.extBut b o (Nat.ne_of_lt (Heap.lt_size e)) (Heap.get?_push_of_some _ e)
    have J : Inv (lamCx X (X.A.deeper (envOfC qg sg s.heap.objs.size g cdg)) (envOfC qg sg s.heap.objs.size g cdg :: X.stack) s1 HZ E scope f c') [] σ HZ { s1 with heap := h₁, toks := s1.toks + ([] : List (Str × Value)).length } :=
      lam_start2 I L I1.env0 hr.hd un hns kp
    refine PySem.W.kla_codeExpr (wpAny_mono ((hbody _ _ s1 HZ E (hr.deeper _)).run [] _ _ HZ Q J ht) (fun v s' hq => ?_) fun e s' hq => hq)
    obtain ⟨w', H', J', rv, q⟩ := hq
    exact ⟨w', H', J'.os, J'.bare, J'.base, J'.hok, rv, q⟩
  have hx : PassesAt (L2.CX X.prog X.w) ((cxOf CXg X.prog X.w X.K X.mg X.base Ng qg sg g cdg X.A X.stack s H Eg).tr pn xe) σZ E := fun _ _ _ e s' I c => tk e s' (XE.of_call I (fun cls d H' h => hW cls d H' h) c)
  refine wpAny_call (codeAny_mono rc fun r s' hq => ?_)
  cases r with
  | error e => exact hx pinsZ HZ s1 e s' I1 hq
  | ok fl =>
    cases fl with
    | ret u => exact I1.after hq
    | next => exact False.elim hq
    | brk => exact False.elim hq
    | cont => exact False.elim hq
end
/-- the def that calls what it got (its first parameter), with one more argument -/
def Gives2 (X : Cx) (Ng : List Str) (x : Str) (sg : Scope) (g : Addr) (cdg : Value) (bg : List Stmt) (a : Str) (q : Str) (k : Nat) (TT : V → (XK → Hp → VK → Prop) → Hp → VK → Prop) : Prop :=
  ∀ (f c' : Addr) (v : V) (s : Shared) (H : Hp) (Q : VK) (tl : XK → Hp → VK → Prop), Room k (X.A.deeper (envOfC x sg s.heap.objs.size g cdg)) →
    (∀ (W : WX) (pn : List (Addr × Obj)) (xe : Value → Shared → Prop) (p1 p2 : Pos), Takes ((cxOf C8.CX0 X.prog X.w X.K X.mg X.base Ng x sg g cdg X.A X.stack s H C8.E0).tr pn xe) W →
      PE ((cxOf C8.CX0 X.prog X.w X.K X.mg X.base Ng x sg g cdg X.A X.stack s H C8.E0).tr pn xe) (.Call (.Name a p1) [] [] p2) (fun σZ HZ Q => ∃ E : XK, (∀ cls d H', E cls d H' → W cls d σZ H') ∧ σZ[0]? = some (some (.ref f)) ∧ HZ c' = some (CodeO c' q) ∧ tl E HZ Q)) →
    H c' = some (CodeO c' q) → TT v tl H Q →
    ∃ t, PSs (cxOf C8.CX0 X.prog X.w X.K X.mg X.base Ng x sg g cdg X.A X.stack s H C8.E0).nox bg t ∧ t { nx := fun _ H' => Q .non H', rt := Q } (L2.start Ng [.ref f, v]) H
def tLam2 (T : List (Addr × Str)) (j : Nat) (TT : V → (XK → Hp → VK → Prop) → Hp → VK → Prop) (t : XK → TE) : TE := fun σ H Q => ∃ v, σ[j]? = some (some v) ∧ Tabs T H ∧ ∀ H1, ExtN H H1 → Tabs T H1 → TT v (fun E H' Q' => t E σ H' Q') H1 Q
section
variable {X : Cx}
theorem pe_lamcall2 {T : List (Addr × Str)} {TT : V → (XK → Hp → VK → Prop) → Hp → VK → Prop} {x a b y : Str} {g c P : Addr} {k j : Nat} {pg : Arguments} {bg : List Stmt} {sg : Scope} {dV kV doc pm cdv ct oc : Value} {an od : Option Addr} {osl : Array (Option Value)} {Ng : List Str}
    {params : Arguments} {body : Expr} {scope : Scope} {t : XK → TE} {p lpos pos py : Pos} (hg : Gl X x) (hm : X.mg x = some (.ref g)) (hk : PySem.W.keepIn X.K (.ref g) = true)
    (lk : X.K.lookup g = some ⟨oc, od, .func (PySem.W.fnOf x x pg bg sg dV kV doc pm an cdv ct), osl⟩) (hcg : PySem.W.codeIn X.K cdv x = true) (hb : L2.Binds X.K (PySem.W.fnOf x x pg bg sg dV kV doc pm an cdv ct) [a, b] []) (Sg : FnScope Ng [a, b] sg) (hNg : Ng[0]? = some a) (hva : Vis sg a)
    (hG : Gives2 X Ng x sg g cdv bg a (X.env.qual ++ "<lambda>") (k + 1) TT)
    (TB : TabB X.base X.mg c P) (hcode : X.env.code = .ref c) (hmT : (P, X.env.qual ++ "<lambda>") ∈ T) (hu : ∀ p ∈ T, p.1 = P → p.2 = X.env.qual ++ "<lambda>") (hr : Room (k + 2) X.A) (L : LamS X.env.scope scope) (hdef : defaultsOf params X.env = ([], []))
    (hbind : ∀ (q : Str) (cl : List (Str × Addr)) (pm cv ctv : Value), bindArgs (PySem.W.kla_fn "<lambda>" q params body scope cl pm cv ctv) ⟨[], []⟩ = pure [])
    (hbody : ∀ (A : Around) (outer : List Env) (s : Shared) (H : Hp) (E : XK) (f c' : Addr), Room k (A.deeper (lamEnv X scope s.heap.objs.size f c')) → PE (lamCx X A outer s H E scope f c') body (t E))
    (hN : X.N[j]? = some y) (hv : Vis X.env.scope y)
    (hdb : (x == ("__debug__" : Str)) = false := by decide) (hd : (a == ("__debug__" : Str)) = false := by decide) (hcd : (a == ("__classdict__" : Str)) = false := by decide)
    (hyd : (y == ("__debug__" : Str)) = false := by decide) (hycd : (y == ("__classdict__" : Str)) = false := by decide) :
    PE X (.Call (.Name x p) [.Lambda params body scope lpos, .Name y py] [] pos) (tLam2 T j TT t) := by
  refine ⟨fun pins s σ H Q I h => ?_⟩
  obtain ⟨v, hσ, hT, h⟩ := h
  refine wpAny_Call_Name_kw (ld_glob I hg hm ?_ hdb)
  refine PySem.W.callWith_K (h₀ := X.base) I.ok.mod.kin hk ?_ (by rfl) (by rfl)
  show wpAny _ _ (spliced ((false, eval (.Lambda params body scope lpos) X.env) :: (false, eval (.Name y py) X.env) :: backTo pos (starEach [] X.env))) _ _ s
  refine Calls.spliced_cons (lam_make2 I TB hcode hmT hu hT hdef (L.has I.ok) fun f c' pm' ctv H1 s' I1 eN T1 hf hfn hfr hco => ?_)
  -- the function object is pinned while the name is read
  have hfl : f ≠ X.env.locals := by
    intro z
    obtain ⟨m, ⟨o, es, ep, e, hdt, _⟩, _⟩ := I1.loc
    rw [← z, hf] at e
    cases e
    cases hdt
  have hff : f ∉ X.fs := fun z => hfr (by
    rcases I1.ok.stk with e | ⟨e, _⟩
    · rw [e]; exact z
    · rw [e]
      unfold frs
      rw [List.filterMap_cons]
      split
      · exact z
      · exact List.mem_cons_of_mem _ z)
  have hpin1 : ∀ pp ∈ X.pn ++ ((f, PySem.W.kla_obj "<lambda>" (X.env.qual ++ "<lambda>") params body scope (cloFrom X.env.cells scope.names []) pm' c' ctv) :: pins), s'.heap.get? pp.1 = some pp.2 ∧ H1 pp.1 = none ∧ pp.1 ≠ X.env.locals ∧ pp.1 ∉ X.fs ∧ ∀ v, pp.2.data ≠ .cell v := by
    intro pp hp
    rcases List.mem_append.mp hp with z | z
    · exact I1.pin pp (List.mem_append_left _ z)
    · rcases List.mem_cons.mp z with rfl | z
      · exact ⟨hf, hfn, hfl, hff, fun v e => by cases e⟩
      · exact I1.pin pp (List.mem_append_right _ z)
  have Ip : Inv X ((f, PySem.W.kla_obj "<lambda>" (X.env.qual ++ "<lambda>") params body scope (cloFrom X.env.cells scope.names []) pm' c' ctv) :: pins) σ H1 s' := { I1 with pin := hpin1 }
  refine Calls.spliced_cons (thn ((pe_var (pos := py) (i := j) hN hv hyd hycd).run _ s' σ H1 (fun w H2 => w = v ∧ H2 = H1) Ip ⟨v, hσ, rfl, rfl⟩) fun u s2 ⟨w, H2, I2p, r2, q2⟩ => ?_)
  obtain ⟨ew, eH⟩ := q2
  rw [ew] at r2
  rw [eH] at I2p
  have hf2 := (I2p.pin (f, _) (List.mem_append_right _ List.mem_cons_self)).1
  have hpin2 : ∀ pp ∈ X.pn ++ pins, s2.heap.get? pp.1 = some pp.2 ∧ H1 pp.1 = none ∧ pp.1 ≠ X.env.locals ∧ pp.1 ∉ X.fs ∧ ∀ v, pp.2.data ≠ .cell v := by
    intro pp hp
    rcases List.mem_append.mp hp with z | z
    · exact I2p.pin pp (List.mem_append_left _ z)
    · exact I2p.pin pp (List.mem_append_right _ (List.mem_cons_of_mem _ z))
  have I2 : Inv X pins σ H1 s2 := { I2p with pin := hpin2 }
  refine Calls.spliced_nil ⟨I2.kIn, ?_⟩
  have rc : codeAny (model X.prog X.w) X.A (.call (.ref g) ⟨[.ref f, u], []⟩) (CR C8.CX0 X.stack X.prog X.w H1 s2 Q C8.E0) s2 := by
    refine run_ofS (N := Ng) (ps := [a, b]) (us := [.ref f, u]) (vs := [.ref f, v]) lk hcg Sg hr I2.env0 (hb s2 [.ref f, u] I2.kIn rfl) (.cons rfl (.cons r2 .nil)) rfl fun hr' => ?_
    obtain ⟨t', ht', hq'⟩ := hG f c' v s2 H1 Q (fun E H' Q' => t E σ H' Q') hr' (fun W pn xe p1 p2 tk => pe_actS (i := 0) (tb := t) I2 L hf2 hfn hfr (hbind _ _ _ _ _) tk hr' (fun A outer s H E hr2 => hbody A outer s H E f c' hr2) hNg hva hd hcd) hco (h H1 eN T1)
    exact ⟨t', ht'.nox, hq'⟩
  refine wpAny_call (codeAny_mono rc fun r s2 hq => ?_)
  cases r with
  | error e => exact (show False from hq).elim
  | ok fl =>
    cases fl with
    | ret u => exact I2.after hq
    | next => exact False.elim hq
    | brk => exact False.elim hq
    | cont => exact False.elim hq
end
end K31
set_option Elab.async false
set_option linter.all false
set_option maxRecDepth 100000
set_option maxHeartbeats 4000000
/-! _law_refused: what it makes of the act. -/
namespace K31
open PySem PySem.Spec PyProof.Rows L2 LamX
/-- the act raises NotBindings with v, or the answer is False -/
def TTr (K : PySem.W.Frag) (CN : Addr) : V → (XK → Hp → VK → Prop) → Hp → VK → Prop := fun v tl H Q => ∃ T d, OrT T ∧ TyX K H v (.type T) ∧ SeqAt.shaped d = true ∧ (∀ H', Same H H' → Dp K H' v d) ∧
  tl (fun cls od H' => cls = .ref CN ∧ ∃ dd, od = some dd ∧ H' dd = some (.xd (vFld v)) ∧ Same H H' ∧ Q (.bl true) H') H fun _ H' => Q (.bl false) H'
def NR : List Str := ["_law_act", "_law_wrong", "e"]
theorem scRef : FnScope NR ["_law_act", "_law_wrong"] (defScope sRef) := ⟨rfl, rfl, rfl, by decide +kernel, rfl, by decide +kernel, by decide +kernel⟩
theorem or_bool {T : String} (h : OrT T) : kitB T "bool" = some (decide (T = "bool")) := by
  cases h <;> decide +kernel
section
variable {X : Cx} {CN fNI ccN cdN : Addr} {file : Str}
theorem refused_gives (M : Mg X.K X.mg) (TN : PySem.NotX.NotTxt X.K X.mg file CN fNI ccN cdN) {g : Addr} {cdg : Value} {q : Str} {k : Nat} : Gives2 X NR "_law_refused" (defScope sRef) g cdg (defBody sRef) "_law_act" q k (TTr X.K CN) := by
  intro f c' v s H Q tl hr act hc h
  obtain ⟨T, d, hT, ty, sd, dp, h⟩ := h
  refine ⟨_, pss_cons (ps_try_as (X := (cxOf C8.CX0 X.prog X.w X.K X.mg X.base NR "_law_refused" (defScope sRef) g cdg X.A X.stack s H C8.E0).nox) (i := 2) (c := .ref CN)
      (tb := fun W D σ H => ∃ E : XK, (∀ cls d H', E cls d H' → W cls d σ H') ∧ σ[0]? = some (some (.ref f)) ∧ H c' = some (CodeO c' q) ∧ tl E H fun _ H' => D.nx σ H')
      rfl rfl scRef.nd rfl rfl ⟨rfl, by decide, .inl TN.gC⟩ LamX.takes0 (fun W pn xe tk _ => ?_) (fun a oe cls d pn hz hf => pss_one (ps_ret (pe_and (pe_cmpR (r := rEqD X.K) (op_eqD ?hu) (pe_byVal TN hz hf (pv 2)) (pv 1) (nomark _))
        (pe_one (pe_cmpR op_eq (pe_callB (id := "isinstance") (r := rIsi X.K) call_isi (by rfl) M.isi (by decide +kernel) (pa_cons (pe_byVal TN hz hf (pv 2)) (pa_cons (pe_bltn (v := .ty "bool") (by rfl) M.boo (by decide +kernel) rfl) pa_nil))) (pe_callB (id := "isinstance") (r := rIsi X.K) call_isi (by rfl) M.isi (by decide +kernel) (pa_cons (pv 1) (pa_cons (pe_bltn (v := .ty "bool") (by rfl) M.boo (by decide +kernel) rfl) pa_nil))) (nomark _)))))))
      (pss_one (ps_ret pe_bl)), ?_⟩
  · refine ⟨fun pins s' σ H' D I h' => ?_⟩
    obtain ⟨E, hW, h1, h2, h3⟩ := h'
    exact (pss_one (ps_expr (act W pn xe _ _ tk))).run pins s' σ H' D I ⟨E, hW, h1, h2, h3⟩
  · exact hr.units
  · refine ⟨fun cls od H' => cls = .ref CN ∧ ∃ dd, od = some dd ∧ H' dd = some (.xd (vFld v)) ∧ Same H H' ∧ Q (.bl true) H', ?_, rfl, hc, h⟩
    rintro cls od H' ⟨rfl, dd, rfl, hdd, s1, q1⟩
    refine ⟨true, TN.te, fun _ a ha => ?_, fun q => by cases q⟩
    have D1 := dp H' s1
    have T1 := tyx_same s1 ty
    have B1 := kit_ty (K := X.K) (or_bool hT)
    refine ⟨_, rfl, rfl, rfl, dd, v, rfl, hdd, _, rfl, d, d, D1, D1, sd, sd, _, rfl, ?_⟩
    rw [SeqAt.eqv_refl d (SeqAt.canLay_of_shaped sd)]
    refine iteT (B := True) ?_
    refine ⟨_, rfl, rfl, rfl, dd, v, rfl, hdd, _, _, _, _, _, rfl, .ty "bool", T1, B1, _, rfl, _, _, _, _, _, rfl, .ty "bool", T1, B1, rfl, ?_⟩
    rw [decide_eq_true rfl]
    exact q1
end
end K31
set_option Elab.async false
set_option linter.all false
set_option maxRecDepth 100000
set_option maxHeartbeats 8000000
/-! law: its walk. -/
namespace K31
open PySem PySem.Spec PyProof.Rows L2 LamX
def spLaw (K : PySem.W.Frag) (Pt : Addr) : Sp := fun vs H Q _ => ∃ (a : Addr) (ns : List Int), vs = [.ref a] ∧ SqL K H a (ns.map V.int) ∧ ns.length ≤ 63 ∧ H Pt = some (.tbl #[]) ∧ ∀ H', Q (.bl true) H'
def NL : List Str := ["_law_script", "_law_state_here", "_law_names_here", "_law_k", "_law_tables", "_law_envs", "_law_a", "_law_b", "_law_one", "_law_wrong", "_law_table_here"]
theorem scLaw : FnScope ["_law_script", "_law_state_here", "_law_names_here", "_law_k", "_law_tables", "_law_envs", "_law_a", "_law_b", "_law_one", "_law_wrong", "_law_table_here"] ["_law_script"] (defScope sLaw) := ⟨rfl, rfl, rfl, by decide +kernel, rfl, by decide +kernel, by decide +kernel⟩
def lamScope : Scope := { kind := .function, names := [("_law_one", .free), ("_law_wrong", .free)], isGenerator := false, isCoroutine := false }
theorem lamL : LamS (defScope sLaw) lamScope := lamS_by (by decide +kernel)
theorem dEq_le {a b : Tb} (na : (a.map (·.1)).Nodup) (nb : (b.map (·.1)).Nodup) (h : dEq a b = true) : dEq b a = true := by
  unfold dEq at h ⊢
  rw [Bool.and_eq_true, decide_eq_true_eq, all_iff na] at h
  rw [Bool.and_eq_true, decide_eq_true_eq, all_iff nb]
  refine ⟨h.1.symm, fun k v hv => ?_⟩
  cases e : valV a k with
  | some u =>
    have := h.2 k u e
    rw [hv] at this
    exact this.symm
  | none =>
    have nk : k ∉ a.map (·.1) := fun m => by
      have := valV_isSome.mpr m
      rw [e] at this
      cases this
    have := pigeon (k :: a.map (·.1)) (b.map (·.1)) (List.nodup_cons.mpr ⟨nk, na⟩) fun x hx => by
      rcases List.mem_cons.mp hx with rfl | hx
      · exact valV_isSome.mp (by rw [hv]; rfl)
      · have s := valV_isSome.mpr hx
        cases q : valV a x with
        | none => rw [q] at s; cases s
        | some u => exact valV_isSome.mp (by rw [h.2 x u q]; rfl)
    rw [List.length_cons, List.length_map, List.length_map] at this
    omega
theorem dEq_comm {a b : Tb} (na : (a.map (·.1)).Nodup) (nb : (b.map (·.1)).Nodup) : dEq a b = dEq b a := by
  rw [Bool.eq_iff_iff]
  exact ⟨dEq_le na nb, dEq_le nb na⟩
section
variable {P : Program} {w : World} {K : PySem.W.Frag} {mg : Str → Option Value} {base : Heap} {C CN : Addr}
theorem ok_law {f c Pt fSt fNs fD fT fI fG fIs fEq fRf fOr fRor fSub fNI ccN cdN : Addr} {fdSt fdNs fdD fdT fdI fdG fdIs fdEq fdRf fdOr fdRor : FuncData} {file : Str} {oc kV doc pm ct : Value} {od an : Option Addr} {osl : Array (Option Value)}
    (lk : K.lookup f = some ⟨oc, od, .func (PySem.W.fnOf "law" "law" (defArgs sLaw) (defBody sLaw) (defScope sLaw) .none kV doc pm an (.ref c) ct), osl⟩) (hcd : PySem.W.codeIn K (.ref c) "law" = true)
    (TB : TabB base mg c Pt) (M : Mg K mg) (T : EnvT K mg C) (OP : EnvO K C fOr fRor fSub) (TN : PySem.NotX.NotTxt K mg file CN fNI ccN cdN)
    (GSt : FnOk P w K mg base CX0 1 fSt fdSt ["_law_script"] (spState K)) (mSt : mg "_law_state" = some (.ref fSt)) (kSt : PySem.W.keepIn K (.ref fSt) = true) (bSt : Binds K fdSt ["_law_script"] [])
    (GNs : FnOk P w K mg base CX0 3 fNs fdNs ["_law_state_here", "_law_many"] spNames) (mNs : mg "_law_names" = some (.ref fNs)) (kNs : PySem.W.keepIn K (.ref fNs) = true) (bNs : Binds K fdNs ["_law_state_here", "_law_many"] [])
    (GD : FnOk P w K mg base CX0 1 fD fdD ["_law_state_here", "_law_many"] spDraw) (mD : mg "_law_draw" = some (.ref fD)) (kD : PySem.W.keepIn K (.ref fD) = true) (bD : Binds K fdD ["_law_state_here", "_law_many"] [])
    (GT : FnOk P w K mg base CX0 3 fT fdT ["_law_state_here", "_law_names_here"] spTable) (mT : mg "_law_table" = some (.ref fT)) (kT : PySem.W.keepIn K (.ref fT) = true) (bT : Binds K fdT ["_law_state_here", "_law_names_here"] [])
    (MI : Mk K C fI) (GI : FnOk P w K mg base CX0 5 fI fdI ["self", "bindings"] (spInit C)) (bI : Binds K fdI ["self", "bindings"] [])
    (GG : FnOk P w K mg base CX0 8 fG fdG ["_law_state_here", "_law_names_here", "_law_envs", "_law_tables"] (spGrow C)) (mG : mg "_law_grow" = some (.ref fG)) (kG : PySem.W.keepIn K (.ref fG) = true) (bG : Binds K fdG ["_law_state_here", "_law_names_here", "_law_envs", "_law_tables"] [])
    (GIs : FnOk P w K mg base CX0 3 fIs fdIs ["_law_env", "_law_table_here"] (spIs C)) (mIs : mg "_law_is" = some (.ref fIs)) (kIs : PySem.W.keepIn K (.ref fIs) = true) (bIs : Binds K fdIs ["_law_env", "_law_table_here"] [])
    (GEq : FnOk P w K mg base CX0 1 fEq fdEq ["self", "other"] (spEq C)) (mEq : Meth K C "__eq__" fEq) (bEq : Binds K fdEq ["self", "other"] []) (nNe : PySem.W.findIn K (.ref C) "__ne__" = some (some (.builtin "object.__ne__"))) (hMo : PySem.W.mroIn K C (.type "object") = some true)
    (GOr : FnOk P w K mg base (L2.CX P w) 7 fOr fdOr ["self", "other"] (spOr K C CN false)) (bOr : Binds K fdOr ["self", "other"] [])
    (GRo : FnOk P w K mg base (L2.CX P w) 7 fRor fdRor ["self", "other"] (spOr K C CN true)) (bRo : Binds K fdRor ["self", "other"] [])
    (FRf : Fun K "_law_refused" "_law_refused" sRef fRf fdRf) (mRf : mg "_law_refused" = some (.ref fRf)) (bRf : Binds K fdRf ["_law_act", "_law_wrong"] []) :
    FnOk P w K mg base CX0 10 f (PySem.W.fnOf "law" "law" (defArgs sLaw) (defBody sLaw) (defScope sLaw) .none kV doc pm an (.ref c) ct) ["_law_script"] (spLaw K Pt) := by
  have kRf := FRf.kp
  obtain ⟨ocR, odR, kVR, docR, pmR, anR, cdvR, ctR, oslR, rfl, lkRf, hcRf⟩ := FRf.ex
  refine fn_of lk hcd scLaw (fun vs H Q E h => ?_) (fun A outer s H vs Q E hr h => ?_)
  · obtain ⟨a, ns, rfl, _⟩ := h
    rfl
  · obtain ⟨a, ns, rfl, hS, hlen, hTb, k⟩ := h
    have hr1 : Room 1 _ := hr.mono (by decide)
    have hr2 : Room 2 _ := hr.mono (by decide)
    have hr3 : Room 3 _ := hr.mono (by decide)
    have hr6 : Room 6 _ := hr.mono (by decide)
    have hr8 : Room 8 _ := hr.mono (by decide)
    have hu := hr.units0
    have hmT : (Pt, ("law" : Str) ++ "." ++ "<locals>" ++ "." ++ "<lambda>") ∈ [(Pt, ("law" : Str) ++ "." ++ "<locals>" ++ "." ++ "<lambda>")] := List.mem_singleton.mpr rfl
    have hmU : ∀ p ∈ [(Pt, ("law" : Str) ++ "." ++ "<locals>" ++ "." ++ "<lambda>")], p.1 = Pt → p.2 = ("law" : Str) ++ "." ++ "<locals>" ++ "." ++ "<lambda>" := fun p hp _ => by rw [List.mem_singleton.mp hp]
    refine ⟨_, PSs.nox (pss_cons (ps_set (i := 1) scLaw.nd rfl (Or.inr rfl) (pe_call GSt hr1 rfl mSt kSt bSt .nil pass0 (pa_cons (pv 0) pa_nil)))
      (pss_cons (ps_set (i := 2) scLaw.nd rfl (Or.inr rfl) (pe_call GNs hr3 rfl mNs kNs bNs .nil pass0 (pa_cons (pv 1) (pa_cons (pe_op op_add pe_int (pe_call GD hr1 rfl mD kD bD .nil pass0 (pa_cons (pv 1) (pa_cons pe_int pa_nil)))) pa_nil))))
      (pss_cons (ps_setLc (i := 4) (own := [("_law_k", 3)]) (g := gName 3) (tt := tYes) (by rfl) scLaw.nd rfl rfl (sw_true rfl rfl rfl (by decide +kernel)) (pi_range1 rfl M.rng (pa_cons pe_int pa_nil)) (blkOk_by (own := [("_law_k", 3)]) (N := ["_law_script", "_law_state_here", "_law_names_here", "_law_k", "_law_tables", "_law_envs", "_law_a", "_law_b", "_law_one", "_law_wrong", "_law_table_here"]) (sc := defScope sLaw) (by decide +kernel))
          (fun _ _ _ _ _ => pg_name (i := 3) scLaw.nd rfl (Or.inl rfl)) (fun _ _ _ _ _ => pts_nil) (fun _ _ _ _ _ => pe_call GT hr3 rfl mT kT bT .nil pass0 (pa_cons (pv 1) (pa_cons (pv 2) pa_nil))))
      (C8.pss_cut (ps_setLc (i := 5) (own := [("_law_table_here", 10)]) (g := gName 10) (tt := tYes) (by rfl) scLaw.nd rfl rfl (sw_true rfl rfl rfl (by decide +kernel)) (pi_list (pv 4)) (blkOk_by (own := [("_law_table_here", 10)]) (N := ["_law_script", "_law_state_here", "_law_names_here", "_law_k", "_law_tables", "_law_envs", "_law_a", "_law_b", "_law_one", "_law_wrong", "_law_table_here"]) (sc := defScope sLaw) (by decide +kernel))
          (fun _ _ _ _ _ => pg_name (i := 10) scLaw.nd rfl (Or.inl rfl)) (fun _ _ _ _ _ => pts_nil) (fun _ _ _ _ _ => pe_make MI GI hr6 rfl T.mgE bI .nil pass0 (pa_cons (pe_callTy call_dictD (by rfl) M.dct (by decide +kernel) (pa_cons (pv 10) pa_nil)) pa_nil)))
      (pss_cons (ps_for PassesOwn.never rfl (pi_range1 rfl M.rng (pa_cons (pe_call GD hr1 rfl mD kD bD .nil pass0 (pa_cons (pv 1) (pa_cons pe_int pa_nil))) pa_nil)) (pg_name (i := 3) scLaw.nd rfl (Or.inl rfl)) (pss_cons (ps_expr (pe_call GG hr8 rfl mG kG bG .nil pass0 (pa_cons (pv 1) (pa_cons (pv 2) (pa_cons (pv 5) (pa_cons (pv 4) pa_nil)))))) (pss_one (ps_if (pt_not (pt_val (pe_call GIs hr3 rfl mIs kIs bIs .nil pass0 (pa_cons (pe_ix ix_list (pv 5) (pe_un un_neg pe_int) (fun _ _ => rfl)) (pa_cons (pe_ix ix_list (pv 4) (pe_un un_neg pe_int) (fun _ _ => rfl)) pa_nil))))) (pss_one (ps_ret pe_bl)) pss_nil))))
      (pss_cons (ps_for PassesOwn.never rfl (pi_range1 rfl M.rng (pa_cons (pe_callB call_len_seq (by rfl) M.len PySem.boot_len (pa_cons (pv 5) pa_nil)) pa_nil)) (pg_name (i := 3) scLaw.nd rfl (Or.inl rfl)) (pss_one (ps_if (pt_not (pt_val (pe_call GIs hr3 rfl mIs kIs bIs .nil pass0 (pa_cons (pe_ix ix_list (pv 5) (pv 3) (fun _ _ => rfl)) (pa_cons (pe_ix ix_list (pv 4) (pv 3) (fun _ _ => rfl)) pa_nil))))) (pss_one (ps_ret pe_bl)) pss_nil)))
      (pss_cons (ps_for PassesOwn.never rfl (pi_range1 rfl M.rng (pa_cons pe_int pa_nil)) (pg_name (i := 3) scLaw.nd rfl (Or.inl rfl)) (pss_cons (ps_set (i := 6) scLaw.nd rfl (Or.inl rfl) (pe_call GD hr1 rfl mD kD bD .nil pass0 (pa_cons (pv 1) (pa_cons (pe_callB call_len_seq (by rfl) M.len PySem.boot_len (pa_cons (pv 5) pa_nil)) pa_nil)))) (pss_cons (ps_set (i := 7) scLaw.nd rfl (Or.inl rfl) (pe_call GD hr1 rfl mD kD bD .nil pass0 (pa_cons (pv 1) (pa_cons (pe_callB call_len_seq (by rfl) M.len PySem.boot_len (pa_cons (pv 5) pa_nil)) pa_nil)))) (pss_cons (ps_if (pt_cmpR op_ne (pe_cmpR (op_ownEq mEq.at_ mEq.fn (raw0 GEq bEq) hr1 pass0) (pe_ix ix_list (pv 5) (pv 6) (fun _ _ => rfl)) (pe_ix ix_list (pv 5) (pv 7) (fun _ _ => rfl)) (nomark _)) (pe_cmpR (op_dEq hu) (pe_ix ix_list (pv 4) (pv 6) (fun _ _ => rfl)) (pe_ix ix_list (pv 4) (pv 7) (fun _ _ => rfl)) (nomark _)) (nomark _)) (pss_one (ps_ret pe_bl)) pss_nil) (pss_one (ps_if (pt_cmpR op_ne (pe_cmpR (op_ownNe mEq.at_ mEq.fn nNe hMo (raw0 GEq bEq) hr2 pass0) (pe_ix ix_list (pv 5) (pv 7) (fun _ _ => rfl)) (pe_ix ix_list (pv 5) (pv 6) (fun _ _ => rfl)) (nomark _)) (pe_cmpR (op_dNe hu) (pe_ix ix_list (pv 4) (pv 6) (fun _ _ => rfl)) (pe_ix ix_list (pv 4) (pv 7) (fun _ _ => rfl)) (nomark _)) (nomark _)) (pss_one (ps_ret pe_bl)) pss_nil))))))
      (pss_cons (ps_set (i := 8) scLaw.nd rfl (Or.inr rfl) (pe_ix ix_list (pv 5) (pe_call GD hr1 rfl mD kD bD .nil pass0 (pa_cons (pv 1) (pa_cons (pe_callB call_len_seq (by rfl) M.len PySem.boot_len (pa_cons (pv 5) pa_nil)) pa_nil))) (fun _ _ => rfl)))
      (pss_cons (ps_set (i := 9) scLaw.nd rfl (Or.inr rfl) (pe_ix ix_list (pe_lst (pa_cons pe_int (pa_cons pe_non (pa_cons pe_str (pa_cons (pe_lst pa_nil) (pa_cons (pe_lst (pa_cons pe_str pa_nil)) (pa_cons (pe_tup (pa_cons pe_int pa_nil)) (pa_cons pe_bl (pa_cons pe_int pa_nil))))))))) (pe_call GD hr1 rfl mD kD bD .nil pass0 (pa_cons (pv 1) (pa_cons pe_int pa_nil))) (fun _ _ => rfl)))
      (pss_cons (ps_if (pt_not (pt_val (pe_lamcall2 (x := "_law_refused") (a := "_law_act") (b := "_law_wrong") (y := "_law_wrong") (j := 9) (k := 7) (T := [(Pt, "law" ++ "." ++ "<locals>" ++ "." ++ "<lambda>")]) (TT := TTr K CN) rfl mRf kRf lkRf hcRf bRf scRef rfl (Or.inl rfl) (refused_gives M TN) TB rfl hmT hmU hr lamL rfl (fun _ _ _ _ _ => rfl)
        (fun A outer s H E f c' hr7 => pe_op (r := rOwnL K C .BitOr (spOr K C CN false) E) (op_envOr OP (raw0 GOr bOr) hr7 (passes_call (takes_of rfl rfl rfl rfl) (fun _ _ _ _ h => h))) (pv 8) (pv 9)) rfl (Or.inr (Or.inl rfl))))) (pss_one (ps_ret pe_bl)) pss_nil)
      (pss_one (ps_ret (pe_lamcall2 (x := "_law_refused") (a := "_law_act") (b := "_law_wrong") (y := "_law_wrong") (j := 9) (k := 7) (T := [(Pt, "law" ++ "." ++ "<locals>" ++ "." ++ "<lambda>")]) (TT := TTr K CN) rfl mRf kRf lkRf hcRf bRf scRef rfl (Or.inl rfl) (refused_gives M TN) TB rfl hmT hmU hr lamL rfl (fun _ _ _ _ _ => rfl)
        (fun A outer s H E f c' hr7 => pe_op (r := rOwnR K C (spOr K C CN true) E) (op_envRor OP (raw0 GRo bRo) hr7 (passes_call (takes_of rfl rfl rfl rfl) (fun _ _ _ _ h => h))) (pv 9) (pv 8)) rfl (Or.inr (Or.inl rfl))))))))))))))), ?_⟩
    have atz : ∀ {xs : List V} {i : Nat} {v : V}, xs[i]? = some v → atI xs (0 + (i : Int)) = some v := fun h => by
      rw [Int.zero_add]
      exact atI_nat h
    refine ⟨_, rfl, a, ns, rfl, hS, hlen, fun st g H1 hst hg S1 s1 => ?_⟩
    have p1 : H1 Pt = some (.tbl #[]) := s1 _ _ hTb
    refine ⟨_, rfl, _, rfl, st, g, 7, rfl, by decide, by decide, S1, fun r H2 r0 r1 S2 k2 => ?_⟩
    have p2 : H2 Pt = some (.tbl #[]) := k2.at S1 p1 (fun _ z => by cases z)
    obtain ⟨j, rfl⟩ : ∃ j : Nat, r = j := ⟨r.toNat, by omega⟩
    refine ⟨1, (j : Int), rfl, rfl, st, g, 1 + j, ?_, by omega, by omega, S2, fun nl nms H3 hnl N3 O3 S3 k3 => ?_⟩
    · show [V.ref st, V.int (1 + (j : Int))] = _
      rw [show (1 : Int) + (j : Int) = ((1 + j : Nat) : Int) by omega]
    have p3 : H3 Pt = some (.tbl #[]) := k3.at S2 p2 (fun _ z => by cases z)
    refine ⟨3, rfl, by decide, by decide, fun D hD => ?_⟩
    obtain ⟨nDs, nDg⟩ := S3.neq hD
    have nDn : D ≠ nl := fun e => by
      rw [e, N3.at_] at hD
      cases hD
    refine lc_range (lo := 0) (n := 3) (fun i H5 => ∃ tabs : List (Addr × Tb), H5 D = some (.lst (tabs.map fun x => V.ref x.1)) ∧ tabs.length = i ∧ (∀ x ∈ tabs, H5 x.1 = some (.dK x.2) ∧ TabOk nms x.2) ∧ StAt st g H5 ∧ Kp st g H3 H5)
      ⟨[], upd_same, rfl, fun _ h => (by cases h), S3.fresh hD, Kp.of (same_new hD)⟩ ?_ ?_
    · rintro i H5 hi ⟨tabs, hL, hn, ht, S5, k5⟩
      refine ⟨rfl, ?_⟩
      refine iteT (B := True) ?_
      refine iteT ?_
      refine ⟨_, rfl, _, rfl, st, g, nl, nms, rfl, S5, N3.kp k5, O3, fun p kvs H6 hp hp6 T6 S6 k6 => ?_⟩
      have hL6 := k6 _ _ hL nDs nDg
      have kd := KpN.upd (ys := tabs.map (fun x => V.ref x.1) ++ [V.ref p]) hL6
      refine ⟨_, hL6, (by rw [List.length_map]; exact small1000 (by omega)), tabs ++ [(p, kvs)], ?_, ?_, fun x hx => ?_, S6.other nDs nDg, fun b o hb x1 x2 => ?_⟩
      · rw [upd_same, List.map_append]
        rfl
      · rw [List.length_append, hn]
        rfl
      · rcases List.mem_append.mp hx with hx | hx
        · exact ⟨kd _ _ (k6.at S5 (ht x hx).1 (fun _ z => by cases z)) (fun _ z => by cases z), (ht x hx).2⟩
        · rw [List.mem_singleton.mp hx]
          exact ⟨kd _ _ hp6 (fun _ z => by cases z), T6⟩
      · rw [upd_ne (ne_of_none hb hD)]
        exact k6 _ _ (k5 _ _ hb x1 x2) x1 x2
    rintro H5 ⟨tabs, hDt, hn3, ht, S5, k5⟩
    have p5 : H5 Pt = some (.tbl #[]) := k5.at S3 p3 (fun _ z => by cases z)
    have N5 := N3.kp k5
    refine ⟨fun σ H' => ∃ (el : Addr) (L : List Ent) (v3 : Option V), σ = [some (.ref a), some (.ref st), some (.ref nl), v3, some (.ref D), some (.ref el), none, none, none, none, none] ∧ Wd C st g nl nms el D L H' ∧ L.length = 3 ∧ H' Pt = some (.tbl #[]), ?_, ?_⟩
    · refine ⟨_, rfl, D, rfl, ⟨_, SqL.of hDt⟩, fun E2 hE2 => ?_⟩
      obtain ⟨nEs, nEg⟩ := S5.neq hE2
      have nEn : E2 ≠ nl := fun e => by
        rw [e, N5.at_] at hE2
        cases hE2
      have nED : E2 ≠ D := fun e => by
        rw [e, hDt] at hE2
        cases hE2
      refine lc_list (K := K) (a := D) (xs := tabs.map fun x => V.ref x.1) (fun i H7 => ∃ L : List Ent, H7 E2 = some (.lst (L.map fun e => V.ref e.p)) ∧ L.map (fun e => (e.a, e.ka)) = tabs.take i ∧ (∀ e ∈ L, EntOk C nms H7 e) ∧ Same H5 H7)
        ⟨[], upd_same, rfl, fun _ h => (by cases h), same_new hE2⟩ (fun i H7 _ ⟨_, _, _, _, s7⟩ => SqL.of (s7 _ _ hDt)) ?_ ?_
      · rintro i x H7 hx ⟨L, hL, hm, hE, s7⟩
        obtain ⟨t, e0, rfl⟩ : ∃ t, tabs[i]? = some t ∧ x = V.ref t.1 := by
          rw [List.getElem?_map] at hx
          cases e : tabs[i]? with
          | none => rw [e] at hx; cases hx
          | some t => rw [e] at hx; exact ⟨t, rfl, (Option.some.inj hx).symm⟩
        have htm : t ∈ tabs := List.mem_of_getElem? e0
        have hil : i < tabs.length := (List.getElem?_eq_some_iff.mp e0).1
        have hll : L.length = i := by
          have := congrArg List.length hm
          rw [List.length_map, List.length_take] at this
          omega
        refine ⟨rfl, ?_⟩
        refine iteT (B := True) ?_
        refine iteT ?_
        refine ⟨_, rfl, t.1, t.2, rfl, .inl (s7 _ _ (ht t htm).1), fun cc hcc => ?_⟩
        have sc := same_new (o := .dK t.2) hcc
        intro r dx nr ndx ne
        have sr : Same (upd H7 cc (.dK t.2)) (upd (upd (upd H7 cc (.dK t.2)) dx (.own r)) r (.ins C dx [])) := fun b o hb => by
          rw [upd_ne (ne_of_none hb nr), upd_ne (ne_of_none hb ndx)]
          exact hb
        refine ⟨r, dx, .ref cc, t.2, nms, rfl, upd_same, O3, ⟨(ht t htm).2, .inr ⟨cc, rfl, sr _ _ upd_same⟩⟩, fun d es H8 hd hEn asc kp => ⟨rfl, ?_⟩⟩
        have s8 : Same H7 H8 := fun b o hb => kp b o (sr _ _ (sc _ _ hb)) (ne_of_none (sc _ _ hb) nr)
        have kd := KpN.upd (ys := L.map (fun e => V.ref e.p) ++ [V.ref r]) (s8 _ _ hL)
        refine ⟨_, s8 _ _ hL, (by rw [List.length_map]; exact small1000 (by omega)), L ++ [⟨r, d, t.1, es, t.2⟩], ?_, ?_, fun e he => ?_, fun b o hb => ?_⟩
        · rw [upd_same, List.map_append]
          rfl
        · rw [List.map_append, hm, List.take_succ, e0]
          rfl
        · rcases List.mem_append.mp he with he | he
          · exact ((hE e he).kp (KpN.of s8)).kp kd
          · rw [List.mem_singleton.mp he]
            exact EntOk.kp (e := ⟨r, d, t.1, es, t.2⟩) ⟨hEn, s8 _ _ (s7 _ _ (ht t htm).1), asc, (ht t htm).2⟩ kd
        · rw [upd_ne (ne_of_none hb hE2)]
          exact s8 _ _ (s7 _ _ hb)
      · rintro H7 ⟨L, hL, hm, hE, s7⟩
        rw [List.length_map, List.take_length] at hm
        have hll : L.length = 3 := by
          have := congrArg List.length hm
          rw [List.length_map] at this
          omega
        have hDm : tabs.map (fun x => V.ref x.1) = L.map fun e => V.ref e.a := by
          rw [← hm, List.map_map]
          rfl
        exact ⟨E2, L, _, rfl, ⟨S5.same s7, N5.kp (Kp.of s7), O3, hL, by rw [← hDm]; exact s7 _ _ hDt, ⟨nEs, nEg, nEn, nDs, nDg, nDn, nED⟩, hE⟩, hll, s7 _ _ p5⟩
    rintro σ H' ⟨el, L, v3, rfl, W, hl3, pP⟩
    clear hDt hn3 ht S5 k5 p5 N5 hD S3 k3 hnl N3 S2 k2 S1 s1
    refine ⟨_, rfl, st, g, 41, rfl, by decide, by decide, W.st_, fun r5 H6 r50 r51 S6 k6 => ?_⟩
    obtain ⟨n, rfl⟩ : ∃ n : Nat, r5 = n := ⟨r5.toNat, by omega⟩
    refine ⟨n, rfl, by omega, by omega, ?_⟩
    refine for_range (lo := 0) (n := n) (fun i σ H7 => ∃ (L : List Ent) (v3 : Option V), σ = [some (.ref a), some (.ref st), some (.ref nl), v3, some (.ref D), some (.ref el), none, none, none, none, none] ∧ Wd C st g nl nms el D L H7 ∧ 3 ≤ L.length ∧ L.length ≤ 3 + i ∧ H7 Pt = some (.tbl #[]))
      ⟨L, v3, rfl, W.step k6 S6, by omega, by omega, k6.at W.st_ pP (fun _ z => by cases z)⟩ ?_ ?_
    · rintro i σ H7 hi ⟨L, v3, rfl, W7, l3, l4, p7⟩
      refine ⟨_, rfl, _, rfl, _, rfl, _, rfl, st, g, nl, el, D, nms, L, rfl, W7, by omega, by omega, fun e H8 W8 kn => ?_⟩
      have E8 := W8.en e (List.mem_append_right _ List.mem_cons_self)
      have ae : atI ((L ++ [e]).map fun e => V.ref e.p) (-1) = some (V.ref e.p) := by
        rw [List.map_append]
        exact atI_last _ _
      have at' : atI ((L ++ [e]).map fun e => V.ref e.a) (-1) = some (V.ref e.a) := by
        rw [List.map_append]
        exact atI_last _ _
      refine ⟨_, rfl, 1, rfl, el, _, _, _, rfl, rfl, SqL.of W8.el_, ae, _, rfl, 1, rfl, D, _, _, _, rfl, rfl, SqL.of W8.tl_, at', e.p, e.d, e.es, e.a, e.ka, nms, rfl, W8.ok, E8.env, E8.tab, E8.asc, E8.ok, fun H9 s9 => ⟨true, rfl, ?_⟩⟩
      refine iteF (A := True) ?_
      refine ⟨L ++ [e], _, rfl, W8.same s9, ?_, ?_, s9 _ _ (kn _ _ p7 (fun _ z => by cases z))⟩
      · rw [List.length_append]; omega
      · rw [List.length_append]
        show L.length + 1 ≤ 3 + (i + 1)
        omega
    rintro σ H7 ⟨L, v3, rfl, W7, l3, l4, p7⟩
    clear pP W
    have ent : ∀ {H9 : Hp} {i : Nat}, Wd C st g nl nms el D L H9 → i < L.length → ∃ e, EntOk C nms H9 e ∧ (L.map fun e => V.ref e.p)[i]? = some (V.ref e.p) ∧ (L.map fun e => V.ref e.a)[i]? = some (V.ref e.a) := fun {H9 i} W9 hi => by
      have e0 := List.getElem?_eq_getElem hi
      refine ⟨L[i], W9.en _ (List.getElem_mem hi), ?_, ?_⟩ <;> rw [List.getElem?_map, e0] <;> rfl
    have lenE : (L.map fun e => V.ref e.p).length = L.length := List.length_map _
    refine ⟨_, rfl, el, _, rfl, .inl (SqL.of W7.el_), _, rfl, by omega, (by rw [lenE]; omega), ?_⟩
    refine for_range (lo := 0) (n := (L.map fun e => V.ref e.p).length) (fun i σ H8 => ∃ v3 : Option V, σ = [some (.ref a), some (.ref st), some (.ref nl), v3, some (.ref D), some (.ref el), none, none, none, none, none] ∧ Wd C st g nl nms el D L H8 ∧ H8 Pt = some (.tbl #[])) ⟨_, rfl, W7, p7⟩ ?_ ?_
    · rintro i σ H8 hi ⟨v, rfl, W8, p8⟩
      rw [lenE] at hi
      obtain ⟨e, E8, ae, at'⟩ := ent W8 hi
      refine ⟨_, rfl, _, rfl, el, _, _, _, rfl, rfl, SqL.of W8.el_, atz ae, _, rfl, _, rfl, D, _, _, _, rfl, rfl, SqL.of W8.tl_, atz at', e.p, e.d, e.es, e.a, e.ka, nms, rfl, W8.ok, E8.env, E8.tab, E8.asc, E8.ok, fun H9 s9 => ⟨true, rfl, ?_⟩⟩
      refine iteF (A := True) ?_
      exact ⟨_, rfl, W8.same s9, s9 _ _ p8⟩
    rintro σ H8 ⟨v3, rfl, W8, p8⟩
    clear W7 p7
    have drw : ∀ {α : Type} (f : Ent → α), (0 : Int) < ((L.map f).length : Int) ∧ ((L.map f).length : Int) ≤ 10 ^ 30 := fun f => by
      rw [List.length_map]
      exact nat_draw (by omega) (by omega)
    have pick : ∀ {H9 : Hp} {r : Int}, Wd C st g nl nms el D L H9 → 0 ≤ r → r < ((L.map fun e => V.ref e.p).length : Int) → ∃ e, EntOk C nms H9 e ∧ e ∈ L ∧ atI (L.map fun e => V.ref e.p) r = some (V.ref e.p) ∧ atI (L.map fun e => V.ref e.a) r = some (V.ref e.a) := fun {H9 r} W9 h0 h1 => by
      rw [lenE] at h1
      obtain ⟨e, he, hat, _⟩ := get_lt h0 h1
      exact ⟨e, W9.en e he, he, atI_map (fun e => V.ref e.p) hat, atI_map (fun e => V.ref e.a) hat⟩
    refine ⟨12, rfl, by decide, by decide, ?_⟩
    refine for_range (lo := 0) (n := 12) (fun i σ H9 => ∃ v3 va vb : Option V, σ = [some (.ref a), some (.ref st), some (.ref nl), v3, some (.ref D), some (.ref el), va, vb, none, none, none] ∧ Wd C st g nl nms el D L H9 ∧ H9 Pt = some (.tbl #[])) ⟨_, _, _, rfl, W8, p8⟩ ?_ ?_
    · rintro i σ H9 hi ⟨v3, va, vb, rfl, W9, p9⟩
      refine ⟨_, rfl, _, rfl, el, _, rfl, .inl (SqL.of W9.el_), st, g, _, rfl, (drw _).1, (drw _).2, W9.st_, fun ra HA ra0 ra1 SA kA => ?_⟩
      have WA := W9.step kA SA
      refine ⟨_, rfl, _, rfl, el, _, rfl, .inl (SqL.of WA.el_), st, g, _, rfl, (drw _).1, (drw _).2, SA, fun rb HB rb0 rb1 SB kB => ?_⟩
      have WB := WA.step kB SB
      obtain ⟨ea, Ea, _, pa1, pa2⟩ := pick WB ra0 ra1
      obtain ⟨eb, Eb, _, pb1, pb2⟩ := pick WB rb0 rb1
      obtain ⟨⟨dxa, hpa⟩, hda⟩ := Ea.env
      obtain ⟨⟨dxb, hpb⟩, hdb⟩ := Eb.env
      have Ta := Ea.asc.tab Ea.ok
      have Tb := Eb.asc.tab Eb.ok
      have fa : ∀ x ∈ ea.es, fl2 x.2 = true := fun x hx => (Ta.vs x hx).fl2
      have fb : ∀ x ∈ eb.es, fl2 x.2 = true := fun x hx => (Tb.vs x hx).fl2
      have ga : ∀ x ∈ ea.ka, fl2 x.2 = true := fun x hx => (Ea.ok.vs x hx).fl2
      have gb : ∀ x ∈ eb.ka, fl2 x.2 = true := fun x hx => (Eb.ok.vs x hx).fl2
      have q1 : dEq ea.es eb.es = dEq ea.ka eb.ka := dEq_of Ea.asc.meq Eb.asc.meq Ta.nd Ea.ok.nd Tb.nd Eb.ok.nd
      have q2 : dEq eb.es ea.es = dEq ea.ka eb.ka := (dEq_comm Tb.nd Ta.nd).trans q1
      refine ⟨_, rfl, _, rfl, el, _, _, _, rfl, rfl, SqL.of WB.el_, pa1, _, rfl, _, rfl, el, _, _, _, rfl, rfl, SqL.of WB.el_, pb1, ea.p, dxa, _, eb.p, dxb, _, rfl, hpa, rfl, hpb, ea.p, ea.d, ea.es, eb.p, eb.d, eb.es, rfl, Ea.env, Eb.env, fa, fb, _, rfl, ?_⟩
      refine ⟨_, rfl, _, rfl, D, _, _, _, rfl, rfl, SqL.of WB.tl_, pa2, _, rfl, _, rfl, D, _, _, _, rfl, rfl, SqL.of WB.tl_, pb2, ea.a, eb.a, ea.ka, eb.ka, rfl, rfl, Ea.tab, Eb.tab, ga, gb, rfl, _, rfl, ?_⟩
      refine iteNS (congrArg V.bl q1) ?_
      refine ⟨_, rfl, _, rfl, el, _, _, _, rfl, rfl, SqL.of WB.el_, pb1, _, rfl, _, rfl, el, _, _, _, rfl, rfl, SqL.of WB.el_, pa1, eb.p, dxb, _, ea.p, dxa, _, rfl, hpb, rfl, hpa, eb.p, eb.d, eb.es, ea.p, ea.d, ea.es, rfl, Eb.env, Ea.env, fb, fa, _, rfl, ?_⟩
      refine ⟨_, rfl, _, rfl, D, _, _, _, rfl, rfl, SqL.of WB.tl_, pa2, _, rfl, _, rfl, D, _, _, _, rfl, rfl, SqL.of WB.tl_, pb2, ea.a, eb.a, ea.ka, eb.ka, rfl, rfl, Ea.tab, Eb.tab, ga, gb, rfl, _, rfl, ?_⟩
      refine iteNS (congrArg V.bl (congrArg Bool.not q2)) ?_
      exact ⟨_, _, _, rfl, WB, kB.at SA (kA.at W9.st_ p9 (fun _ z => by cases z)) (fun _ z => by cases z)⟩
    rintro σ H9 ⟨v3, va, vb, rfl, W9, p9⟩
    clear W8 p8
    refine ⟨_, rfl, _, rfl, _, rfl, el, _, rfl, .inl (SqL.of W9.el_), st, g, _, rfl, (drw _).1, (drw _).2, W9.st_, fun ro HA ro0 ro1 SA kA => ?_⟩
    have WA := W9.step kA SA
    obtain ⟨eo, Eo, heo, po1, _⟩ := pick WA ro0 ro1
    have pA : HA Pt = some (.tbl #[]) := kA.at W9.st_ p9 (fun _ z => by cases z)
    refine ⟨el, _, _, _, rfl, rfl, SqL.of WA.el_, po1, ?_⟩
    refine ⟨(by show 0 ≤ sizeLine; decide), fun l1 hl1 => ⟨(by show 1 ≤ sizeLine; decide), fun l2 hl2 => ⟨(by show 1 ≤ sizeLine; decide), fun t1 ht1 => ⟨(by show 8 ≤ sizeLine; decide), fun l hl => ?_⟩⟩⟩⟩
    have s1 := same_new (o := .lst []) hl1
    have s2 := same_new (o := .lst [.str "a"]) hl2
    have s3 := same_new (o := .tup [.int 1]) ht1
    have s4 := same_new (o := .lst [.int 5, .non, .str "x", .ref l1, .ref l2, .ref t1, .bl true, .int 0]) hl
    have s14 := s1.trans (s2.trans (s3.trans s4))
    have SB := SA.same s14
    refine ⟨_, rfl, st, g, 8, rfl, by decide, by decide, SB, fun rw_ HC rw0 rw1 SC kC => ?_⟩
    obtain ⟨n1s, n1g⟩ := SA.neq hl1
    obtain ⟨n2s, n2g⟩ := (SA.same s1).neq hl2
    obtain ⟨nls, nlg⟩ := (SA.same (s1.trans (s2.trans s3))).neq hl
    have WC := (WA.same s14).step kC SC
    have pC : HC Pt = some (.tbl #[]) := kC.at SB (s14 _ _ pA) (fun _ z => by cases z)
    have c1 : HC l1 = some (.lst []) := kC _ _ (s4 _ _ (s3 _ _ (s2 _ _ upd_same))) n1s n1g
    have c2 : HC l2 = some (.lst [.str "a"]) := kC _ _ (s4 _ _ (s3 _ _ upd_same)) n2s n2g
    have c3 : HC t1 = some (.tup [.int 1]) := kC.at SB (s4 _ _ upd_same) (fun _ z => by cases z)
    have cl : HC l = some (.lst [.int 5, .non, .str "x", .ref l1, .ref l2, .ref t1, .bl true, .int 0]) := kC _ _ upd_same nls nlg
    have key : ∃ v T d, atI [V.int 5, .non, .str "x", .ref l1, .ref l2, .ref t1, .bl true, .int 0] rw_ = some v ∧ OrT T ∧ T ≠ "dict" ∧ SeqAt.shaped d = true ∧ ∀ H', ExtN HC H' → TyX K H' v (.type T) ∧ Dp K H' v d := by
      obtain ⟨j, rfl⟩ : ∃ j : Nat, rw_ = j := ⟨rw_.toNat, by omega⟩
      have hj : j < 8 := by omega
      match j, hj with
      | 0, _ => exact ⟨_, "int", .int 5, atI_nat rfl, .int, by decide, by decide, fun H' _ => ⟨.base (.int 5), .int 5⟩⟩
      | 1, _ => exact ⟨_, "NoneType", .none, atI_nat rfl, .none, by decide, by decide, fun H' _ => ⟨.base .non, .non⟩⟩
      | 2, _ => exact ⟨_, "str", .str "x", atI_nat rfl, .str, by decide, by decide +kernel, fun H' _ => ⟨.base (.str "x"), .str "x"⟩⟩
      | 3, _ => exact ⟨_, "list", .list [], atI_nat rfl, .list, by decide, by decide, fun H' e => ⟨.base (.lst (e _ _ c1 fun _ z => by cases z)), .lst (SqL.of (e _ _ c1 fun _ z => by cases z)) .nil⟩⟩
      | 4, _ => exact ⟨_, "list", .list [.str "a"], atI_nat rfl, .list, by decide, by decide +kernel, fun H' e => ⟨.base (.lst (e _ _ c2 fun _ z => by cases z)), .lst (SqL.of (e _ _ c2 fun _ z => by cases z)) (.cons (.str "a") .nil)⟩⟩
      | 5, _ => exact ⟨_, "tuple", .tuple [.int 1], atI_nat rfl, .tuple, by decide, by decide, fun H' e => ⟨.base (.tup (e _ _ c3 fun _ z => by cases z)), .tup (SqT.of (e _ _ c3 fun _ z => by cases z)) (.cons (.int 1) .nil)⟩⟩
      | 6, _ => exact ⟨_, "bool", .bool true, atI_nat rfl, .bool, by decide, by decide, fun H' _ => ⟨.base (.bl true), .bl true⟩⟩
      | 7, _ => exact ⟨_, "int", .int 0, atI_nat rfl, .int, by decide, by decide, fun H' _ => ⟨.base (.int 0), .int 0⟩⟩
    obtain ⟨v, T', d, hat, hT, nd, sd, hv⟩ := key
    refine ⟨l, _, _, v, rfl, rfl, SqL.of cl, hat, ?_⟩
    have EC := WC.en eo heo
    have envE : ∀ {H1 : Hp}, ExtN HC H1 → EnvAt C H1 eo.p eo.d eo.es := fun {H1} e => by
      obtain ⟨⟨dx, h1⟩, h2⟩ := EC.env
      exact ⟨⟨dx, e _ _ h1 fun _ z => by cases z⟩, e _ _ h2 fun _ z => by cases z⟩
    have exS : ∀ {H1 H2 : Hp}, Same H1 H2 → ExtN H1 H2 := fun s b o h _ => s b o h
    have tab0 : Tabs [(Pt, ("law" : Str) ++ "." ++ "<locals>" ++ "." ++ "<lambda>")] HC := fun p hp => by
      rw [List.mem_singleton.mp hp]
      exact TabS.nil pC
    -- one | wrong
    refine ⟨v, rfl, tab0, fun H1 e1 T1 => ⟨T', d, hT, (hv H1 e1).1, sd, fun H' s' => (hv H' (e1.trans (exS s'))).2, ?_⟩⟩
    obtain ⟨⟨dxo, ho1⟩, hd1⟩ := id (envE e1)
    refine ⟨_, rfl, _, rfl, eo.p, dxo, _, rfl, ho1, .inr ⟨T', (hv H1 e1).1, binT_or K C hT⟩, eo.p, eo.d, eo.es, eo.ka, nms, v, rfl, O3, envE e1, EC.asc, EC.ok, .inr ⟨⟨T', hT, nd, (hv H1 e1).1⟩, fun dd H2 hdd hd2 s2' => ⟨rfl, dd, rfl, hd2, s2', true, rfl, ?_⟩⟩⟩
    refine iteF (A := True) ?_
    -- wrong | one
    have e2 : ExtN HC H2 := e1.trans (exS s2')
    refine ⟨v, rfl, T1.ext s2', fun H3 e3 T3 => ⟨T', d, hT, (hv H3 (e2.trans e3)).1, sd, fun H' s' => (hv H' ((e2.trans e3).trans (exS s'))).2, ?_⟩⟩
    obtain ⟨⟨dxp, ho3⟩, hd3⟩ := id (envE (e2.trans e3))
    exact ⟨_, rfl, _, rfl, eo.p, dxp, _, rfl, ho3, ⟨T', hT, (hv H3 (e2.trans e3)).1⟩, eo.p, eo.d, eo.es, eo.ka, nms, v, rfl, O3, envE (e2.trans e3), EC.asc, EC.ok, .inr ⟨⟨T', hT, nd, (hv H3 (e2.trans e3)).1⟩, fun dd H4 hdd hd4 s4' => ⟨rfl, dd, rfl, hd4, s4', k H4⟩⟩⟩
end
end K31
set_option Elab.async false
set_option linter.all false
set_option maxRecDepth 100000
set_option maxHeartbeats 8000000
/-! What the top has left, and the end of the walk. -/
namespace K31
open PySem PySem.Spec PyProof.Rows L2
def strsAre : List Str → List Value → Bool
  | [], [] => true
  | s :: r, .str x _ :: t => (s == x) && strsAre r t
  | _, _ => false
theorem vals_of_are : ∀ {ss : List Str} {vs : List Value}, strsAre ss vs = true → Vals (ss.map V.str) vs
  | [], [], _ => .nil
  | s :: r, .str x k :: t, h => by
    unfold strsAre at h
    rw [Bool.and_eq_true] at h
    exact .cons ⟨k, by rw [beq_iff_eq.mp h.1]⟩ (vals_of_are h.2)
theorem ktup_of {K : PySem.W.Frag} {a : Addr} {o : Obj} {its : Array Value} {n : Nat} (l : K.lookup a = some o) (c : o.cls = .type "tuple") (d : o.data = .seq its n) (e : strsAre KEPTS its.toList = true) : KTup K a (KEPTS.map V.str) := by
  have v := vals_of_are e
  refine ⟨o, its, n, l, c, d, ?_, v⟩
  have h1 := v.length
  rw [List.length_map] at h1
  have h2 : its.toList.length = its.size := by simp
  rw [← h2, ← h1]
  decide
theorem all_mk {l : PySem.W.OpenLaw} {w : World} {K : PySem.W.Frag} {h : Heap} {mg : Str → Option Value} {fa : Addr} (X : K.In h) (G : h.Ns mainGlobals mg) (hfa : mg "law" = some (.ref fa)) (hB : ∃ B t, mg "BEYOND" = some (.int B t) ∧ (10 : Int) ^ 31 ≤ B)
    {C CN Td Pt cL fNI ccN cdN kA : Addr}
    {fWord : Addr} {odWord anWord : Option Addr} {slWord : Array (Option Value)} {ocWord kVWord dcWord pmWord cdWord ctWord : Value}
    {fIdent : Addr} {odIdent anIdent : Option Addr} {slIdent : Array (Option Value)} {ocIdent kVIdent dcIdent pmIdent cdIdent ctIdent : Value}
    {fIsVal : Addr} {odIsVal anIsVal : Option Addr} {slIsVal : Array (Option Value)} {ocIsVal kVIsVal dcIsVal pmIsVal cdIsVal ctIsVal : Value}
    {fPair : Addr} {odPair anPair : Option Addr} {slPair : Array (Option Value)} {ocPair kVPair dcPair pmPair cdPair ctPair : Value}
    {fAsc : Addr} {odAsc anAsc : Option Addr} {slAsc : Array (Option Value)} {ocAsc kVAsc dcAsc pmAsc cdAsc ctAsc : Value}
    {fBind : Addr} {odBind anBind : Option Addr} {slBind : Array (Option Value)} {ocBind kVBind dcBind pmBind cdBind ctBind : Value}
    {fSt : Addr} {odSt anSt : Option Addr} {slSt : Array (Option Value)} {ocSt kVSt dcSt pmSt cdSt ctSt : Value}
    {fD : Addr} {odD anD : Option Addr} {slD : Array (Option Value)} {ocD kVD dcD pmD cdD ctD : Value}
    {fKw : Addr} {odKw anKw : Option Addr} {slKw : Array (Option Value)} {ocKw kVKw dcKw pmKw cdKw ctKw : Value}
    {fNm : Addr} {odNm anNm : Option Addr} {slNm : Array (Option Value)} {ocNm kVNm dcNm pmNm cdNm ctNm : Value}
    {fNs : Addr} {odNs anNs : Option Addr} {slNs : Array (Option Value)} {ocNs kVNs dcNs pmNs cdNs ctNs : Value}
    {fVl : Addr} {odVl anVl : Option Addr} {slVl : Array (Option Value)} {ocVl kVVl dcVl pmVl cdVl ctVl : Value}
    {fT : Addr} {odT anT : Option Addr} {slT : Array (Option Value)} {ocT kVT dcT pmT cdT ctT : Value}
    {fOv : Addr} {odOv anOv : Option Addr} {slOv : Array (Option Value)} {ocOv kVOv dcOv pmOv cdOv ctOv : Value}
    {fPt : Addr} {odPt anPt : Option Addr} {slPt : Array (Option Value)} {ocPt kVPt dcPt pmPt cdPt ctPt : Value}
    {fPs : Addr} {odPs anPs : Option Addr} {slPs : Array (Option Value)} {ocPs kVPs dcPs pmPs cdPs ctPs : Value}
    {fIs : Addr} {odIs anIs : Option Addr} {slIs : Array (Option Value)} {ocIs kVIs dcIs pmIs cdIs ctIs : Value}
    {fG : Addr} {odG anG : Option Addr} {slG : Array (Option Value)} {ocG kVG dcG pmG cdG ctG : Value}
    {fRf : Addr} {odRf anRf : Option Addr} {slRf : Array (Option Value)} {ocRf kVRf dcRf pmRf cdRf ctRf : Value}
    {fL : Addr} {odL anL : Option Addr} {slL : Array (Option Value)} {ocL kVL dcL pmL ctL : Value}
    {fLen : Addr} {odLen anLen : Option Addr} {slLen : Array (Option Value)} {ocLen kVLen dcLen pmLen cdLen ctLen : Value}
    {fEq : Addr} {odEq anEq : Option Addr} {slEq : Array (Option Value)} {ocEq kVEq dcEq pmEq cdEq ctEq : Value}
    {fOr : Addr} {odOr anOr : Option Addr} {slOr : Array (Option Value)} {ocOr kVOr dcOr pmOr cdOr ctOr : Value}
    {fRo : Addr} {odRo anRo : Option Addr} {slRo : Array (Option Value)} {ocRo kVRo dcRo pmRo cdRo ctRo : Value}
    {fSu : Addr} {odSu anSu : Option Addr} {slSu : Array (Option Value)} {ocSu kVSu dcSu pmSu cdSu ctSu : Value}
    {fLi : Addr} {odLi anLi : Option Addr} {slLi : Array (Option Value)} {ocLi kVLi dcLi pmLi cdLi ctLi : Value}
    {fOn : Addr} {odOn anOn : Option Addr} {slOn : Array (Option Value)} {ocOn kVOn dcOn pmOn cdOn ctOn : Value}
    {fI : Addr} {odI anI : Option Addr} {slI : Array (Option Value)} {ocI kVI dcI pmI cdI ctI : Value}
    {oTd : Value} {dTd : Option Addr} {itTd : Array Value} {nTd : Nat} {slTd : Array (Option Value)}
    {nmN qN : Str} {NN : Addr} {bsN bmN : List Value} {snN : List Str} {subN : List Value} {abN : Bool} {colN : Option Bool} {ddN : Option Addr} {k0N k1N k2N k3N k5N : Option Value}
    {ocN : Value} {odN anN : Option Addr} {dcN pmN ctN : Value} {slN : Array (Option Value)} {oc2 : Value} {od2 : Option Addr} {sl2 : Array (Option Value)} {oc3 : Value} {od3 : Option Addr} {vs3 : Array Value} {sl3 : Array (Option Value)} {file : Str} {tf : Tok}
    {tLe tDi tLo : Tok}
    {oKe : Obj} {itK : Array Value} {nK : Nat}
    (aWord : PySem.W.nsIn K mainGlobals "is_word" = some (some (.ref fWord)))
    (lWord : K.lookup fWord = some ⟨ocWord, odWord, .func (PySem.W.fnOf "is_word" "is_word" (defArgs sWord) (defBody sWord) (defScope sWord) .none kVWord dcWord pmWord anWord (cdWord) ctWord), slWord⟩)
    (cWord : PySem.W.codeIn K (cdWord) "is_word" = true)
    (kWord : PySem.W.keepIn K (.ref fWord) = true)
    (aIdent : PySem.W.nsIn K mainGlobals "is_identifier" = some (some (.ref fIdent)))
    (lIdent : K.lookup fIdent = some ⟨ocIdent, odIdent, .func (PySem.W.fnOf "is_identifier" "is_identifier" (defArgs sIdent) (defBody sIdent) (defScope sIdent) .none kVIdent dcIdent pmIdent anIdent (cdIdent) ctIdent), slIdent⟩)
    (cIdent : PySem.W.codeIn K (cdIdent) "is_identifier" = true)
    (kIdent : PySem.W.keepIn K (.ref fIdent) = true)
    (aIsVal : PySem.W.nsIn K mainGlobals "is_value" = some (some (.ref fIsVal)))
    (lIsVal : K.lookup fIsVal = some ⟨ocIsVal, odIsVal, .func (PySem.W.fnOf "is_value" "is_value" (defArgs sValue) (defBody sValue) (defScope sValue) .none kVIsVal dcIsVal pmIsVal anIsVal (cdIsVal) ctIsVal), slIsVal⟩)
    (cIsVal : PySem.W.codeIn K (cdIsVal) "is_value" = true)
    (kIsVal : PySem.W.keepIn K (.ref fIsVal) = true)
    (aPair : PySem.W.nsIn K mainGlobals "check_pair" = some (some (.ref fPair)))
    (lPair : K.lookup fPair = some ⟨ocPair, odPair, .func (PySem.W.fnOf "check_pair" "check_pair" (defArgs sPair) (defBody sPair) (defScope sPair) .none kVPair dcPair pmPair anPair (cdPair) ctPair), slPair⟩)
    (cPair : PySem.W.codeIn K (cdPair) "check_pair" = true)
    (kPair : PySem.W.keepIn K (.ref fPair) = true)
    (aAsc : PySem.W.nsIn K mainGlobals "ascending" = some (some (.ref fAsc)))
    (lAsc : K.lookup fAsc = some ⟨ocAsc, odAsc, .func (PySem.W.fnOf "ascending" "ascending" (defArgs sAsc) (defBody sAsc) (defScope sAsc) .none kVAsc dcAsc pmAsc anAsc (cdAsc) ctAsc), slAsc⟩)
    (cAsc : PySem.W.codeIn K (cdAsc) "ascending" = true)
    (kAsc : PySem.W.keepIn K (.ref fAsc) = true)
    (aBind : PySem.W.nsIn K mainGlobals "bindings_of" = some (some (.ref fBind)))
    (lBind : K.lookup fBind = some ⟨ocBind, odBind, .func (PySem.W.fnOf "bindings_of" "bindings_of" (defArgs sBind) (defBody sBind) (defScope sBind) .none kVBind dcBind pmBind anBind (cdBind) ctBind), slBind⟩)
    (cBind : PySem.W.codeIn K (cdBind) "bindings_of" = true)
    (kBind : PySem.W.keepIn K (.ref fBind) = true)
    (aSt : PySem.W.nsIn K mainGlobals "_law_state" = some (some (.ref fSt)))
    (lSt : K.lookup fSt = some ⟨ocSt, odSt, .func (PySem.W.fnOf "_law_state" "_law_state" (defArgs sState) (defBody sState) (defScope sState) .none kVSt dcSt pmSt anSt (cdSt) ctSt), slSt⟩)
    (cSt : PySem.W.codeIn K (cdSt) "_law_state" = true)
    (kSt : PySem.W.keepIn K (.ref fSt) = true)
    (aD : PySem.W.nsIn K mainGlobals "_law_draw" = some (some (.ref fD)))
    (lD : K.lookup fD = some ⟨ocD, odD, .func (PySem.W.fnOf "_law_draw" "_law_draw" (defArgs sDraw) (defBody sDraw) (defScope sDraw) .none kVD dcD pmD anD (cdD) ctD), slD⟩)
    (cD : PySem.W.codeIn K (cdD) "_law_draw" = true)
    (kD : PySem.W.keepIn K (.ref fD) = true)
    (aKw : PySem.W.nsIn K mainGlobals "_law_kept_words" = some (some (.ref fKw)))
    (lKw : K.lookup fKw = some ⟨ocKw, odKw, .func (PySem.W.fnOf "_law_kept_words" "_law_kept_words" (defArgs sKept) (defBody sKept) (defScope sKept) .none kVKw dcKw pmKw anKw (cdKw) ctKw), slKw⟩)
    (cKw : PySem.W.codeIn K (cdKw) "_law_kept_words" = true)
    (kKw : PySem.W.keepIn K (.ref fKw) = true)
    (aNm : PySem.W.nsIn K mainGlobals "_law_name" = some (some (.ref fNm)))
    (lNm : K.lookup fNm = some ⟨ocNm, odNm, .func (PySem.W.fnOf "_law_name" "_law_name" (defArgs sName) (defBody sName) (defScope sName) .none kVNm dcNm pmNm anNm (cdNm) ctNm), slNm⟩)
    (cNm : PySem.W.codeIn K (cdNm) "_law_name" = true)
    (kNm : PySem.W.keepIn K (.ref fNm) = true)
    (aNs : PySem.W.nsIn K mainGlobals "_law_names" = some (some (.ref fNs)))
    (lNs : K.lookup fNs = some ⟨ocNs, odNs, .func (PySem.W.fnOf "_law_names" "_law_names" (defArgs sNames) (defBody sNames) (defScope sNames) .none kVNs dcNs pmNs anNs (cdNs) ctNs), slNs⟩)
    (cNs : PySem.W.codeIn K (cdNs) "_law_names" = true)
    (kNs : PySem.W.keepIn K (.ref fNs) = true)
    (aVl : PySem.W.nsIn K mainGlobals "_law_value" = some (some (.ref fVl)))
    (lVl : K.lookup fVl = some ⟨ocVl, odVl, .func (PySem.W.fnOf "_law_value" "_law_value" (defArgs sVal) (defBody sVal) (defScope sVal) .none kVVl dcVl pmVl anVl (cdVl) ctVl), slVl⟩)
    (cVl : PySem.W.codeIn K (cdVl) "_law_value" = true)
    (kVl : PySem.W.keepIn K (.ref fVl) = true)
    (aT : PySem.W.nsIn K mainGlobals "_law_table" = some (some (.ref fT)))
    (lT : K.lookup fT = some ⟨ocT, odT, .func (PySem.W.fnOf "_law_table" "_law_table" (defArgs sTable) (defBody sTable) (defScope sTable) .none kVT dcT pmT anT (cdT) ctT), slT⟩)
    (cT : PySem.W.codeIn K (cdT) "_law_table" = true)
    (kT : PySem.W.keepIn K (.ref fT) = true)
    (aOv : PySem.W.nsIn K mainGlobals "_law_over" = some (some (.ref fOv)))
    (lOv : K.lookup fOv = some ⟨ocOv, odOv, .func (PySem.W.fnOf "_law_over" "_law_over" (defArgs sOver) (defBody sOver) (defScope sOver) .none kVOv dcOv pmOv anOv (cdOv) ctOv), slOv⟩)
    (cOv : PySem.W.codeIn K (cdOv) "_law_over" = true)
    (kOv : PySem.W.keepIn K (.ref fOv) = true)
    (aPt : PySem.W.nsIn K mainGlobals "_law_part" = some (some (.ref fPt)))
    (lPt : K.lookup fPt = some ⟨ocPt, odPt, .func (PySem.W.fnOf "_law_part" "_law_part" (defArgs sPart) (defBody sPart) (defScope sPart) .none kVPt dcPt pmPt anPt (cdPt) ctPt), slPt⟩)
    (cPt : PySem.W.codeIn K (cdPt) "_law_part" = true)
    (kPt : PySem.W.keepIn K (.ref fPt) = true)
    (aPs : PySem.W.nsIn K mainGlobals "_law_pairs" = some (some (.ref fPs)))
    (lPs : K.lookup fPs = some ⟨ocPs, odPs, .func (PySem.W.fnOf "_law_pairs" "_law_pairs" (defArgs sPairs) (defBody sPairs) (defScope sPairs) .none kVPs dcPs pmPs anPs (cdPs) ctPs), slPs⟩)
    (cPs : PySem.W.codeIn K (cdPs) "_law_pairs" = true)
    (kPs : PySem.W.keepIn K (.ref fPs) = true)
    (aIs : PySem.W.nsIn K mainGlobals "_law_is" = some (some (.ref fIs)))
    (lIs : K.lookup fIs = some ⟨ocIs, odIs, .func (PySem.W.fnOf "_law_is" "_law_is" (defArgs sIs) (defBody sIs) (defScope sIs) .none kVIs dcIs pmIs anIs (cdIs) ctIs), slIs⟩)
    (cIs : PySem.W.codeIn K (cdIs) "_law_is" = true)
    (kIs : PySem.W.keepIn K (.ref fIs) = true)
    (aG : PySem.W.nsIn K mainGlobals "_law_grow" = some (some (.ref fG)))
    (lG : K.lookup fG = some ⟨ocG, odG, .func (PySem.W.fnOf "_law_grow" "_law_grow" (defArgs sGrow) (defBody sGrow) (defScope sGrow) .none kVG dcG pmG anG (cdG) ctG), slG⟩)
    (cG : PySem.W.codeIn K (cdG) "_law_grow" = true)
    (kG : PySem.W.keepIn K (.ref fG) = true)
    (aRf : PySem.W.nsIn K mainGlobals "_law_refused" = some (some (.ref fRf)))
    (lRf : K.lookup fRf = some ⟨ocRf, odRf, .func (PySem.W.fnOf "_law_refused" "_law_refused" (defArgs sRef) (defBody sRef) (defScope sRef) .none kVRf dcRf pmRf anRf (cdRf) ctRf), slRf⟩)
    (cRf : PySem.W.codeIn K (cdRf) "_law_refused" = true)
    (kRf : PySem.W.keepIn K (.ref fRf) = true)
    (aL : PySem.W.nsIn K mainGlobals "law" = some (some (.ref fL)))
    (lL : K.lookup fL = some ⟨ocL, odL, .func (PySem.W.fnOf "law" "law" (defArgs sLaw) (defBody sLaw) (defScope sLaw) .none kVL dcL pmL anL (.ref cL) ctL), slL⟩)
    (cL_ : PySem.W.codeIn K (.ref cL) "law" = true)
    (kL : PySem.W.keepIn K (.ref fL) = true)
    (aC : PySem.W.nsIn K mainGlobals "Env" = some (some (.ref C)))
    (aLen : PySem.W.findIn K (.ref C) "__len__" = some (some (.ref fLen)))
    (iLen : PySem.W.isFn K (.ref fLen) = true)
    (lLen : K.lookup fLen = some ⟨ocLen, odLen, .func (PySem.W.fnOf "__len__" "Env.__len__" (defArgs sLen) (defBody sLen) (defScope sLen) .none kVLen dcLen pmLen anLen (cdLen) ctLen), slLen⟩)
    (cLen : PySem.W.codeIn K (cdLen) "Env.__len__" = true)
    (kLen : PySem.W.keepIn K (.ref fLen) = true)
    (aEq : PySem.W.findIn K (.ref C) "__eq__" = some (some (.ref fEq)))
    (iEq : PySem.W.isFn K (.ref fEq) = true)
    (lEq : K.lookup fEq = some ⟨ocEq, odEq, .func (PySem.W.fnOf "__eq__" "Env.__eq__" (defArgs sEq) (defBody sEq) (defScope sEq) .none kVEq dcEq pmEq anEq (cdEq) ctEq), slEq⟩)
    (cEq : PySem.W.codeIn K (cdEq) "Env.__eq__" = true)
    (kEq : PySem.W.keepIn K (.ref fEq) = true)
    (aOr : PySem.W.findIn K (.ref C) "__or__" = some (some (.ref fOr)))
    (iOr : PySem.W.isFn K (.ref fOr) = true)
    (lOr : K.lookup fOr = some ⟨ocOr, odOr, .func (PySem.W.fnOf "__or__" "Env.__or__" (defArgs sOr) (defBody sOr) (defScope sOr) .none kVOr dcOr pmOr anOr (cdOr) ctOr), slOr⟩)
    (cOr : PySem.W.codeIn K (cdOr) "Env.__or__" = true)
    (kOr : PySem.W.keepIn K (.ref fOr) = true)
    (aRo : PySem.W.findIn K (.ref C) "__ror__" = some (some (.ref fRo)))
    (iRo : PySem.W.isFn K (.ref fRo) = true)
    (lRo : K.lookup fRo = some ⟨ocRo, odRo, .func (PySem.W.fnOf "__ror__" "Env.__ror__" (defArgs sRor) (defBody sRor) (defScope sRor) .none kVRo dcRo pmRo anRo (cdRo) ctRo), slRo⟩)
    (cRo : PySem.W.codeIn K (cdRo) "Env.__ror__" = true)
    (kRo : PySem.W.keepIn K (.ref fRo) = true)
    (aSu : PySem.W.findIn K (.ref C) "__sub__" = some (some (.ref fSu)))
    (iSu : PySem.W.isFn K (.ref fSu) = true)
    (lSu : K.lookup fSu = some ⟨ocSu, odSu, .func (PySem.W.fnOf "__sub__" "Env.__sub__" (defArgs sSub) (defBody sSub) (defScope sSub) .none kVSu dcSu pmSu anSu (cdSu) ctSu), slSu⟩)
    (cSu : PySem.W.codeIn K (cdSu) "Env.__sub__" = true)
    (kSu : PySem.W.keepIn K (.ref fSu) = true)
    (aLi : PySem.W.findIn K (.ref C) "listed" = some (some (.ref fLi)))
    (iLi : PySem.W.isFn K (.ref fLi) = true)
    (lLi : K.lookup fLi = some ⟨ocLi, odLi, .func (PySem.W.fnOf "listed" "Env.listed" (defArgs sListed) (defBody sListed) (defScope sListed) .none kVLi dcLi pmLi anLi (cdLi) ctLi), slLi⟩)
    (cLi : PySem.W.codeIn K (cdLi) "Env.listed" = true)
    (kLi : PySem.W.keepIn K (.ref fLi) = true)
    (aOn : PySem.W.findIn K (.ref C) "only" = some (some (.ref fOn)))
    (iOn : PySem.W.isFn K (.ref fOn) = true)
    (lOn : K.lookup fOn = some ⟨ocOn, odOn, .func (PySem.W.fnOf "only" "Env.only" (defArgs sOnly) (defBody sOnly) (defScope sOnly) .none kVOn dcOn pmOn anOn (cdOn) ctOn), slOn⟩)
    (cOn : PySem.W.codeIn K (cdOn) "Env.only" = true)
    (kOn : PySem.W.keepIn K (.ref fOn) = true)
    (aI : PySem.W.findIn K (.ref C) "__init__" = some (some (.ref fI)))
    (iI : PySem.W.isFn K (.ref fI) = true)
    (lI : K.lookup fI = some ⟨ocI, odI, .func (PySem.W.fnOf "__init__" "Env.__init__" (defArgs sInit) (defBody sInit) (defScope sInit) (.ref Td) kVI dcI pmI anI (cdI) ctI), slI⟩)
    (cI : PySem.W.codeIn K (cdI) "Env.__init__" = true)
    (kI : PySem.W.keepIn K (.ref fI) = true)
    (lTd : K.lookup Td = some ⟨oTd, dTd, .seq itTd nTd, slTd⟩)
    (eTd : itTd = #[Value.none])
    (pg : PySem.W.plainGet K C Str.empty = true)
    (hd : PySem.W.hasDictIn K C = true)
    (po : PySem.W.plainOver K C = true)
    (sa : PySem.W.findIn K (.ref C) "__setattr__" = some (some (.builtin "object.__setattr__")))
    (mk : PySem.W.makesIn K C = true)
    (kc : PySem.W.keepIn K (.ref C) = true)
    (nT0 : PySem.W.findIn K (.ref C) "table" = some none)
    (ha : PySem.W.findIn K (.ref C) "__class__" = some (some (.builtin "object.__class__")))
    (hn : PySem.W.specialIn K (.builtin "object.__class__") "__get__" = some (some (.builtin "getset_descriptor.__get__")))
    (htk : PySem.W.takesIn K (.builtin "object.__class__") = some true)
    (hm : PySem.W.mroIn K C (.type "object") = some true)
    (me : PySem.W.kitOne K (.ref C) (.ref C) = some true)
    (kt_int : PySem.W.kitOne K (.type "int") (.ref C) = some false)
    (kt_bool : PySem.W.kitOne K (.type "bool") (.ref C) = some false)
    (kt_none : PySem.W.kitOne K (.type "NoneType") (.ref C) = some false)
    (kt_str : PySem.W.kitOne K (.type "str") (.ref C) = some false)
    (kt_list : PySem.W.kitOne K (.type "list") (.ref C) = some false)
    (kt_tuple : PySem.W.kitOne K (.type "tuple") (.ref C) = some false)
    (kt_dict : PySem.W.kitOne K (.type "dict") (.ref C) = some false)
    (sb_int : PySem.W.subIn K (.ref C) (.type "int") = some false)
    (sb_bool : PySem.W.subIn K (.ref C) (.type "bool") = some false)
    (sb_none : PySem.W.subIn K (.ref C) (.type "NoneType") = some false)
    (sb_str : PySem.W.subIn K (.ref C) (.type "str") = some false)
    (sb_list : PySem.W.subIn K (.ref C) (.type "list") = some false)
    (sb_tuple : PySem.W.subIn K (.ref C) (.type "tuple") = some false)
    (sb_dict : PySem.W.subIn K (.ref C) (.type "dict") = some false)
    (sf : PySem.W.selfFirst K C = true)
    (nrs : PySem.W.findIn K (.ref C) "__rsub__" = some none)
    (nne : PySem.W.findIn K (.ref C) "__ne__" = some (some (.builtin "object.__ne__")))
    (nC : PySem.W.nsIn K mainGlobals "NotBindings" = some (some (.ref CN)))
    (nl : K.lookup CN = some (excClassObj nmN qN CN NN bsN bmN true snN subN abN colN ddN k0N k1N k2N k3N k5N "ValueError.__new__"))
    (nve : PySem.HandSPX.refsVE bmN = true)
    (nsa : PySem.W.findIn K (.ref CN) "__setattr__" = some (some (.builtin "object.__setattr__")))
    (nga : PySem.W.findIn K (.ref CN) "__getattribute__" = some (some (.builtin "BaseException.__getattribute__")))
    (ngg : PySem.W.findIn K (.ref CN) "__getattr__" = some none)
    (nno : PySem.W.findIn K (.ref CN) "value" = some none)
    (nic : PySem.W.findIn K (.ref CN) "__init__" = some (some (.ref fNI)))
    (ntc : PySem.W.typeIn K (.ref fNI) = some (.type "function"))
    (nkc : PySem.W.keepIn K (.ref CN) = true)
    (nex : PySem.W.subIn K (.ref CN) (.type "BaseException") = some true)
    (nty : PySem.W.typeIn K (.ref CN) = some (.type "type"))
    (nhd : PySem.W.hasDictIn K CN = true)
    (nte : PySem.W.exmOne K (.ref CN) (.ref CN) = some true)
    (nsu : PySem.W.ks_superIn K CN CN "__init__" = some (some (.builtin "ValueError.__init__")))
    (nsv : PySem.W.subIn K (.ref CN) (.type "ValueError") = some true)
    (nse : PySem.W.mroIn K CN (.ref CN) = some true)
    (nop : PySem.W.nsIn K cStatics "thirdparty.any" = some none)
    (nsp : PySem.W.nsIn K mainGlobals "super" = some none)
    (nfl : K.lookup fNI = some ⟨ocN, odN, .func (PySem.W.ksFn "__init__" "NotBindings.__init__" PySem.NotX.iA PySem.NotX.iB PySem.NotX.iS .none .none dcN pmN anN (.ref cdN) ctN ccN), slN⟩)
    (nfc : PySem.W.codeIn K (.ref cdN) "NotBindings.__init__" = true)
    (ncl : K.lookup ccN = some ⟨oc2, od2, .cell (some (.ref CN)), sl2⟩)
    (ncd : K.lookup cdN = some ⟨oc3, od3, .fields vs3, sl3⟩)
    (ncv : vs3[2]? = some (.str file tf))
    (z_len : PySem.W.nsIn K mainGlobals "len" = some none)
    (z_isinstance : PySem.W.nsIn K mainGlobals "isinstance" = some none)
    (z_all : PySem.W.nsIn K mainGlobals "all" = some none)
    (z_sorted : PySem.W.nsIn K mainGlobals "sorted" = some none)
    (z_list : PySem.W.nsIn K mainGlobals "list" = some none)
    (z_dict : PySem.W.nsIn K mainGlobals "dict" = some none)
    (z_range : PySem.W.nsIn K mainGlobals "range" = some none)
    (z_abs : PySem.W.nsIn K mainGlobals "abs" = some none)
    (z_int : PySem.W.nsIn K mainGlobals "int" = some none)
    (z_str : PySem.W.nsIn K mainGlobals "str" = some none)
    (z_tuple : PySem.W.nsIn K mainGlobals "tuple" = some none)
    (z_bool : PySem.W.nsIn K mainGlobals "bool" = some none)
    (mLe : PySem.W.nsIn K mainGlobals "LETTERS" = some (some (.str LETT tLe)))
    (mDi : PySem.W.nsIn K mainGlobals "DIGITS" = some (some (.str DIGT tDi)))
    (mLo : PySem.W.nsIn K mainGlobals "LONGEST" = some (some (.int 12 tLo)))
    (mKe : PySem.W.nsIn K mainGlobals "KEPT" = some (some (.ref kA)))
    (lKe : K.lookup kA = some oKe)
    (eKc : oKe.cls = .type "tuple")
    (eKd : oKe.data = .seq itK nK)
    (eKs : strsAre KEPTS itK.toList = true)
    (hTb : PySem.W.codeHdIn K cL Pt = true)
    (hPn : K.lookup Pt = none)
    (hPt : h.get? Pt = some { cls := .none, data := .fields #[] })
    (htop : (l.prog.main.scope.names.lookup ("super" : Str)).isSome = false)
    (hfile : ((l.prog.main.file : Str) == file) = true) :
    LamX.LawAtS l w K CX0 10 63 "_law_script" mg fa h := by
  have FWord := fun_mk (st := sWord) lWord cWord kWord
  have bWord := FWord.binds (ps := ["value"]) fun _ _ _ _ _ _ us hl => match us, hl with | [_], _ => rfl
  have FIdent := fun_mk (st := sIdent) lIdent cIdent kIdent
  have bIdent := FIdent.binds (ps := ["value"]) fun _ _ _ _ _ _ us hl => match us, hl with | [_], _ => rfl
  have FIsVal := fun_mk (st := sValue) lIsVal cIsVal kIsVal
  have bIsVal := FIsVal.binds (ps := ["value"]) fun _ _ _ _ _ _ us hl => match us, hl with | [_], _ => rfl
  have FPair := fun_mk (st := sPair) lPair cPair kPair
  have bPair := FPair.binds (ps := ["name", "value"]) fun _ _ _ _ _ _ us hl => match us, hl with | [_, _], _ => rfl
  have FAsc := fun_mk (st := sAsc) lAsc cAsc kAsc
  have bAsc := FAsc.binds (ps := ["table"]) fun _ _ _ _ _ _ us hl => match us, hl with | [_], _ => rfl
  have FBind := fun_mk (st := sBind) lBind cBind kBind
  have bBind := FBind.binds (ps := ["given"]) fun _ _ _ _ _ _ us hl => match us, hl with | [_], _ => rfl
  have FSt := fun_mk (st := sState) lSt cSt kSt
  have bSt := FSt.binds (ps := ["_law_script"]) fun _ _ _ _ _ _ us hl => match us, hl with | [_], _ => rfl
  have FD := fun_mk (st := sDraw) lD cD kD
  have bD := FD.binds (ps := ["_law_state_here", "_law_many"]) fun _ _ _ _ _ _ us hl => match us, hl with | [_, _], _ => rfl
  have FKw := fun_mk (st := sKept) lKw cKw kKw
  have bKw := FKw.binds (ps := []) fun _ _ _ _ _ _ us hl => match us, hl with | [], _ => rfl
  have FNm := fun_mk (st := sName) lNm cNm kNm
  have bNm := FNm.binds (ps := ["_law_state_here", "_law_names_here"]) fun _ _ _ _ _ _ us hl => match us, hl with | [_, _], _ => rfl
  have FNs := fun_mk (st := sNames) lNs cNs kNs
  have bNs := FNs.binds (ps := ["_law_state_here", "_law_many"]) fun _ _ _ _ _ _ us hl => match us, hl with | [_, _], _ => rfl
  have FVl := fun_mk (st := sVal) lVl cVl kVl
  have bVl := FVl.binds (ps := ["_law_state_here"]) fun _ _ _ _ _ _ us hl => match us, hl with | [_], _ => rfl
  have FT := fun_mk (st := sTable) lT cT kT
  have bT := FT.binds (ps := ["_law_state_here", "_law_names_here"]) fun _ _ _ _ _ _ us hl => match us, hl with | [_, _], _ => rfl
  have FOv := fun_mk (st := sOver) lOv cOv kOv
  have bOv := FOv.binds (ps := ["_law_low", "_law_high"]) fun _ _ _ _ _ _ us hl => match us, hl with | [_, _], _ => rfl
  have FPt := fun_mk (st := sPart) lPt cPt kPt
  have bPt := FPt.binds (ps := ["_law_table_here", "_law_names_here", "_law_inside"]) fun _ _ _ _ _ _ us hl => match us, hl with | [_, _, _], _ => rfl
  have FPs := fun_mk (st := sPairs) lPs cPs kPs
  have bPs := FPs.binds (ps := ["_law_table_here", "_law_names_here"]) fun _ _ _ _ _ _ us hl => match us, hl with | [_, _], _ => rfl
  have FIs := fun_mk (st := sIs) lIs cIs kIs
  have bIs := FIs.binds (ps := ["_law_env", "_law_table_here"]) fun _ _ _ _ _ _ us hl => match us, hl with | [_, _], _ => rfl
  have FG := fun_mk (st := sGrow) lG cG kG
  have bG := FG.binds (ps := ["_law_state_here", "_law_names_here", "_law_envs", "_law_tables"]) fun _ _ _ _ _ _ us hl => match us, hl with | [_, _, _, _], _ => rfl
  have FRf := fun_mk (st := sRef) lRf cRf kRf
  have bRf := FRf.binds (ps := ["_law_act", "_law_wrong"]) fun _ _ _ _ _ _ us hl => match us, hl with | [_, _], _ => rfl
  have FLen := fun_mk (st := sLen) lLen cLen kLen
  have bLen := FLen.binds (ps := ["self"]) fun _ _ _ _ _ _ us hl => match us, hl with | [_], _ => rfl
  have FEq := fun_mk (st := sEq) lEq cEq kEq
  have bEq := FEq.binds (ps := ["self", "other"]) fun _ _ _ _ _ _ us hl => match us, hl with | [_, _], _ => rfl
  have FOr := fun_mk (st := sOr) lOr cOr kOr
  have bOr := FOr.binds (ps := ["self", "other"]) fun _ _ _ _ _ _ us hl => match us, hl with | [_, _], _ => rfl
  have FRo := fun_mk (st := sRor) lRo cRo kRo
  have bRo := FRo.binds (ps := ["self", "other"]) fun _ _ _ _ _ _ us hl => match us, hl with | [_, _], _ => rfl
  have FSu := fun_mk (st := sSub) lSu cSu kSu
  have bSu := FSu.binds (ps := ["self", "names"]) fun _ _ _ _ _ _ us hl => match us, hl with | [_, _], _ => rfl
  have FLi := fun_mk (st := sListed) lLi cLi kLi
  have bLi := FLi.binds (ps := ["self"]) fun _ _ _ _ _ _ us hl => match us, hl with | [_], _ => rfl
  have FOn := fun_mk (st := sOnly) lOn cOn kOn
  have bOn := FOn.binds (ps := ["self", "names"]) fun _ _ _ _ _ _ us hl => match us, hl with | [_, _], _ => rfl
  have mWord : mg "is_word" = some (.ref fWord) := PySem.W.mg_of X G aWord
  have mIdent : mg "is_identifier" = some (.ref fIdent) := PySem.W.mg_of X G aIdent
  have mIsVal : mg "is_value" = some (.ref fIsVal) := PySem.W.mg_of X G aIsVal
  have mPair : mg "check_pair" = some (.ref fPair) := PySem.W.mg_of X G aPair
  have mAsc : mg "ascending" = some (.ref fAsc) := PySem.W.mg_of X G aAsc
  have mBind : mg "bindings_of" = some (.ref fBind) := PySem.W.mg_of X G aBind
  have mSt : mg "_law_state" = some (.ref fSt) := PySem.W.mg_of X G aSt
  have mD : mg "_law_draw" = some (.ref fD) := PySem.W.mg_of X G aD
  have mKw : mg "_law_kept_words" = some (.ref fKw) := PySem.W.mg_of X G aKw
  have mNm : mg "_law_name" = some (.ref fNm) := PySem.W.mg_of X G aNm
  have mNs : mg "_law_names" = some (.ref fNs) := PySem.W.mg_of X G aNs
  have mVl : mg "_law_value" = some (.ref fVl) := PySem.W.mg_of X G aVl
  have mT : mg "_law_table" = some (.ref fT) := PySem.W.mg_of X G aT
  have mOv : mg "_law_over" = some (.ref fOv) := PySem.W.mg_of X G aOv
  have mPt : mg "_law_part" = some (.ref fPt) := PySem.W.mg_of X G aPt
  have mPs : mg "_law_pairs" = some (.ref fPs) := PySem.W.mg_of X G aPs
  have mIs : mg "_law_is" = some (.ref fIs) := PySem.W.mg_of X G aIs
  have mG : mg "_law_grow" = some (.ref fG) := PySem.W.mg_of X G aG
  have mRf : mg "_law_refused" = some (.ref fRf) := PySem.W.mg_of X G aRf
  have mtLen : Meth K C "__len__" fLen := ⟨aLen, iLen, kLen⟩
  have mtEq : Meth K C "__eq__" fEq := ⟨aEq, iEq, kEq⟩
  have mtOr : Meth K C "__or__" fOr := ⟨aOr, iOr, kOr⟩
  have mtRo : Meth K C "__ror__" fRo := ⟨aRo, iRo, kRo⟩
  have mtSu : Meth K C "__sub__" fSu := ⟨aSu, iSu, kSu⟩
  have mtLi : Meth K C "listed" fLi := ⟨aLi, iLi, kLi⟩
  have mtOn : Meth K C "only" fOn := ⟨aOn, iOn, kOn⟩
  have FI : FunD K "__init__" "Env.__init__" (defArgs sInit) (defBody sInit) (defScope sInit) [.non] [] fI _ := ⟨⟨ocI, odI, .ref Td, kVI, dcI, pmI, anI, cdI, ctI, slI, rfl, lI, cI, .inr ⟨by simp, Td, _, [Value.none], nTd, rfl, lTd, by rw [eTd], .cons rfl .nil⟩, .inl rfl⟩, kI⟩
  have bI : Binds K (PySem.W.fnOf "__init__" "Env.__init__" (defArgs sInit) (defBody sInit) (defScope sInit) (.ref Td) kVI dcI pmI anI cdI ctI) ["self", "bindings"] [] := by
    obtain ⟨ds, r, b⟩ := FI.binds1 (ps := ["self", "bindings"]) 2 1 (by simp) rfl fun T kV doc pm an cdv ct us its hu hi => match us, hu, its, hi with | [_, _], _, [_], _ => ⟨_, rfl, rfl⟩
    cases r
    exact b
  have M : Mg K mg := ⟨PySem.W.mg_none_of X G z_len, PySem.W.mg_none_of X G z_isinstance, PySem.W.mg_none_of X G z_all, PySem.W.mg_none_of X G z_sorted, PySem.W.mg_none_of X G z_list, PySem.W.mg_none_of X G z_dict, PySem.W.mg_none_of X G z_range, PySem.W.mg_none_of X G z_abs, PySem.W.mg_none_of X G z_int, PySem.W.mg_none_of X G z_str, PySem.W.mg_none_of X G z_tuple, PySem.W.mg_none_of X G z_bool,
    ⟨_, PySem.W.mg_of X G mLe⟩, ⟨_, PySem.W.mg_of X G mDi⟩, ⟨_, PySem.W.mg_of X G mLo⟩, ⟨kA, PySem.W.mg_of X G mKe, ktup_of lKe eKc eKd eKs⟩, hB⟩
  have T : EnvT K mg C := ⟨⟨⟨pg, hd, po, sa⟩, ha, hn, htk, hm, me⟩, nT0, PySem.W.mg_of X G aC, fun T hT => by cases hT <;> assumption⟩
  have OP : EnvO K C fOr fRo fSu := ⟨sf, mtOr, mtRo, mtSu, nrs, fun T hT => by cases hT <;> assumption⟩
  have TN : PySem.NotX.NotTxt K mg file CN fNI ccN cdN := ⟨PySem.W.mg_of X G nC, ⟨_, _, _, _, _, _, _, _, _, _, _, _, _, _, _, nl, nve⟩, nsa, nga, ngg, nno, nic, ntc, nkc, nex, nty, nhd, nte, nsu, nsv, nse, nop, PySem.W.mg_none_of X G nsp, ⟨_, _, _, ncl⟩, ⟨_, _, _, _, _, ncd, ncv⟩, ⟨_, _, _, _, _, _, _, nfl, nfc⟩⟩
  have MI : Mk K C fI := ⟨mk, aI, iI, kc⟩
  have e := hfa.symm.trans (PySem.W.mg_of X G aL)
  cases e
  refine ⟨PySem.W.fnOf "law" "law" (defArgs sLaw) (defBody sLaw) (defScope sLaw) .none kVL dcL pmL anL (.ref cL) ctL, [(cL, Pt)], spLaw K Pt, fun p hp => by rw [List.mem_singleton.mp hp]; exact hPt, fun p hp => by rw [List.mem_singleton.mp hp]; exact hPn,
    fun p hp => by rw [List.mem_singleton.mp hp]; exact PySem.W.codeHd_of_K X hTb, fun s u => .of_eq rfl, fun H a ns hl _ hT hS => ⟨a, ns, rfl, hS, hl, hT _ (List.mem_singleton.mpr rfl), fun _ => rfl⟩, fun base hKb hGb hTB => ?_⟩
  have GD : FnOk l.prog w K mg base CX0 1 fD _ ["_law_state_here", "_law_many"] spDraw := ok_draw FD M
  have GSt : FnOk l.prog w K mg base CX0 1 fSt _ ["_law_script"] (spState K) := ok_state FSt M
  have GNm : FnOk l.prog w K mg base CX0 2 fNm _ ["_law_state_here", "_law_names_here"] spName := ok_name FNm M FD mD bD FKw mKw bKw
  have GNs : FnOk l.prog w K mg base CX0 3 fNs _ ["_law_state_here", "_law_many"] spNames := ok_names FNs M GNm mNm kNm bNm
  have GVl : FnOk l.prog w K mg base CX0 2 fVl _ ["_law_state_here"] spValue := ok_value FVl M GD mD kD bD
  have GT : FnOk l.prog w K mg base CX0 3 fT _ ["_law_state_here", "_law_names_here"] spTable := ok_table FT M GD mD kD bD GVl mVl kVl bVl
  have GW : FnOk l.prog w K mg base CX0 1 fWord _ ["value"] spWord := ok_word FWord M
  have GId : FnOk l.prog w K mg base CX0 2 fIdent _ ["value"] spIdent := ok_ident FIdent M GW mWord kWord bWord
  have GIv : FnOk l.prog w K mg base CX0 1 fIsVal _ ["value"] spIsVal := ok_isval FIsVal M
  have GPr : FnOk l.prog w K mg base CX0 3 fPair _ ["name", "value"] spPair := ok_pair FPair GId mIdent kIdent bIdent GIv mIsVal kIsVal bIsVal
  have GAs : FnOk l.prog w K mg base CX0 1 fAsc _ ["table"] spAsc := ok_asc FAsc M
  have GB : FnOk l.prog w K mg base (L2.CX l.prog w) 4 fBind _ ["given"] (spBind K C CN) := ok_bind FBind M T TN htop hfile GPr mPair kPair bPair GAs mAsc kAsc bAsc
  have GI : FnOk l.prog w K mg base CX0 5 fI _ ["self", "bindings"] (spInit C) := ok_init FI T GB mBind kBind bBind
  have GLe : FnOk l.prog w K mg base CX0 1 fLen _ ["self"] (spLen C) := ok_len FLen M T
  have GEq : FnOk l.prog w K mg base CX0 1 fEq _ ["self", "other"] (spEq C) := ok_eq FEq M T
  have GLi : FnOk l.prog w K mg base CX0 1 fLi _ ["self"] (spListed C) := ok_listed FLi M T
  have GOr : FnOk l.prog w K mg base (L2.CX l.prog w) 7 fOr _ ["self", "other"] (spOr K C CN false) := ok_or FOr T GB mBind kBind bBind MI GI bI
  have GRo : FnOk l.prog w K mg base (L2.CX l.prog w) 7 fRo _ ["self", "other"] (spOr K C CN true) := ok_ror FRo T GB mBind kBind bBind MI GI bI
  have GSu : FnOk l.prog w K mg base CX0 7 fSu _ ["self", "names"] (spSel K C false) := ok_sub FSu T MI GI bI
  have GOn : FnOk l.prog w K mg base CX0 7 fOn _ ["self", "names"] (spSel K C true) := ok_only FOn T MI GI bI
  have GOv : FnOk l.prog w K mg base CX0 1 fOv _ ["_law_low", "_law_high"] spOver := ok_over FOv M
  have GPa : FnOk l.prog w K mg base CX0 1 fPt _ ["_law_table_here", "_law_names_here", "_law_inside"] (spPart K) := ok_part FPt M
  have GPs : FnOk l.prog w K mg base CX0 1 fPs _ ["_law_table_here", "_law_names_here"] spPairs := ok_pairs FPs M
  have GIs : FnOk l.prog w K mg base CX0 3 fIs _ ["_law_env", "_law_table_here"] (spIs C) := ok_is FIs M T GLi mtLi bLi GLe mtLen bLen GPs mPs kPs bPs
  have GG : FnOk l.prog w K mg base CX0 8 fG _ ["_law_state_here", "_law_names_here", "_law_envs", "_law_tables"] (spGrow C) := ok_grow FG M T OP GD mD kD bD GT mT kT bT GOv mOv kOv bOv GPa mPt kPt bPt GOn mtOn bOn MI GI bI GOr bOr GRo bRo GSu bSu
  exact ok_law lL cL_ (hTB _ (List.mem_singleton.mpr rfl)) M T OP TN GSt mSt kSt bSt GNs mNs kNs bNs GD mD kD bD GT mT kT bT MI GI bI GG mG kG bG GIs mIs kIs bIs GEq mtEq bEq nne hm GOr bOr GRo bRo FRf mRf bRf
theorem walk {l : PySem.W.OpenLaw} {q : Program} {loose : List Str} {lv : List (Str × PySem.W.WData)} {YP : World → Heap → Prop} {d : DefRec} {K : Params → PySem.W.Frag} {B : Int} (hn : l.most = some 63) (hdf : d.params.defaults = []) (hY : ∀ (w : World) (h : Heap), YP w h → (K w.params).In h)
    (hlv : (("BEYOND" : Str), PySem.W.WData.int B) ∈ lv) (hB : (10 : Int) ^ 31 ≤ B)
    (F : ∀ (w : World) (mg : Str → Option Value) (fa : Addr) (h : Heap), YP w h → (K w.params).In h → h.Ns mainGlobals mg → mg d.name = some (.ref fa) → (∃ B t, mg "BEYOND" = some (.int B t) ∧ (10 : Int) ^ 31 ≤ B) → LamX.LawAtS l w (K w.params) CX0 10 63 "_law_script" mg fa h) :
    PySem.W.WalkO q loose (PySem.W.XL q lv) YP l.row.toRowW d [] (fun f vs => PySem.call f vs) := by
  refine Att.attach_callB hn hdf fun w s₀ s₁ mg mb fa o pm cd doc a vs ns G Y ho hd hcd hmg hobj hints hlen hbits hg => ?_
  have KX := hY w _ Y
  obtain ⟨v, hv, hr⟩ := G.X.2.val _ hlv
  have hb : ∃ B t, mg "BEYOND" = some (.int B t) ∧ (10 : Int) ^ 31 ≤ B := by
    cases hr with
    | int i t => exact ⟨B, t, hv, hB⟩
  obtain ⟨fd, cs, sp, hT, nT, C, hb, hsp, hF⟩ := F w mg fa _ Y KX G.T.g hmg hb
  exact LamX.law_callTs KX G.T.g G.T.b G.T.builtins G.T.nolimit hg hT nT C G.T.bmain hobj hints (Nat.le_trans hlen (by decide)) ⟨rfl, by decide, by decide⟩ hF hb (fun H hH hS => hsp H a ns hlen hbits hH hS) fun H e s' z => z
end K31
set_option Elab.async false
open PySem PySem.W PyProof.Rows
set_option maxRecDepth 100000 in
set_option maxHeartbeats 0 in
theorem PySem.Challenge.cw_bindspan_k31_whole_env_expressions_holds : PySem.Challenge.rw_bindspan_k31_whole_env_expressions.Holds := by
  w_on; o_law; k_head; (case hw => w_witness2)
  k_fill
  refine K31.walk (l := PySem.Challenge.rw_bindspan_k31_whole_env_expressions) (B := 10 ^ 1000) rfl rfl (fun w h Y => PySem.W.km_in_of Y) (by exact List.mem_singleton.mpr (by kernel_rfl)) (by decide +kernel) ?F
  case F =>
    intro w mg fa h Y KX G hmg hB
    refine' K31.all_mk KX G hmg hB ?aWord ?lWord ?cWord ?kWord ?aIdent ?lIdent ?cIdent ?kIdent ?aIsVal ?lIsVal ?cIsVal ?kIsVal ?aPair ?lPair ?cPair ?kPair ?aAsc ?lAsc ?cAsc ?kAsc ?aBind ?lBind ?cBind ?kBind ?aSt ?lSt ?cSt ?kSt ?aD ?lD ?cD ?kD ?aKw ?lKw ?cKw ?kKw ?aNm ?lNm ?cNm ?kNm ?aNs ?lNs ?cNs ?kNs ?aVl ?lVl ?cVl ?kVl ?aT ?lT ?cT ?kT ?aOv ?lOv ?cOv ?kOv ?aPt ?lPt ?cPt ?kPt ?aPs ?lPs ?cPs ?kPs ?aIs ?lIs ?cIs ?kIs ?aG ?lG ?cG ?kG ?aRf ?lRf ?cRf ?kRf ?aL ?lL ?cL_ ?kL ?aC ?aLen ?iLen ?lLen ?cLen ?kLen ?aEq ?iEq ?lEq ?cEq ?kEq ?aOr ?iOr ?lOr ?cOr ?kOr ?aRo ?iRo ?lRo ?cRo ?kRo ?aSu ?iSu ?lSu ?cSu ?kSu ?aLi ?iLi ?lLi ?cLi ?kLi ?aOn ?iOn ?lOn ?cOn ?kOn ?aI ?iI ?lI ?cI ?kI ?lTd ?eTd ?pg ?hd ?po ?sa ?mk ?kc ?nT0 ?ha ?hn ?htk ?hm ?me ?kt_int ?kt_bool ?kt_none ?kt_str ?kt_list ?kt_tuple ?kt_dict ?sb_int ?sb_bool ?sb_none ?sb_str ?sb_list ?sb_tuple ?sb_dict ?sf ?nrs ?nne ?nC ?nl ?nve ?nsa ?nga ?ngg ?nno ?nic ?ntc ?nkc ?nex ?nty ?nhd ?nte ?nsu ?nsv ?nse ?nop ?nsp ?nfl ?nfc ?ncl ?ncd ?ncv ?z_len ?z_isinstance ?z_all ?z_sorted ?z_list ?z_dict ?z_range ?z_abs ?z_int ?z_str ?z_tuple ?z_bool ?mLe ?mDi ?mLo ?mKe ?lKe ?eKc ?eKd ?eKs ?hTb ?hPn ?hPt ?htop ?hfile
    (case aWord => k_is)
    (case lWord => k_is)
    (case cWord => k_is)
    (case kWord => k_is)
    (case aIdent => k_is)
    (case lIdent => k_is)
    (case cIdent => k_is)
    (case kIdent => k_is)
    (case aIsVal => k_is)
    (case lIsVal => k_is)
    (case cIsVal => k_is)
    (case kIsVal => k_is)
    (case aPair => k_is)
    (case lPair => k_is)
    (case cPair => k_is)
    (case kPair => k_is)
    (case aAsc => k_is)
    (case lAsc => k_is)
    (case cAsc => k_is)
    (case kAsc => k_is)
    (case aBind => k_is)
    (case lBind => k_is)
    (case cBind => k_is)
    (case kBind => k_is)
    (case aSt => k_is)
    (case lSt => k_is)
    (case cSt => k_is)
    (case kSt => k_is)
    (case aD => k_is)
    (case lD => k_is)
    (case cD => k_is)
    (case kD => k_is)
    (case aKw => k_is)
    (case lKw => k_is)
    (case cKw => k_is)
    (case kKw => k_is)
    (case aNm => k_is)
    (case lNm => k_is)
    (case cNm => k_is)
    (case kNm => k_is)
    (case aNs => k_is)
    (case lNs => k_is)
    (case cNs => k_is)
    (case kNs => k_is)
    (case aVl => k_is)
    (case lVl => k_is)
    (case cVl => k_is)
    (case kVl => k_is)
    (case aT => k_is)
    (case lT => k_is)
    (case cT => k_is)
    (case kT => k_is)
    (case aOv => k_is)
    (case lOv => k_is)
    (case cOv => k_is)
    (case kOv => k_is)
    (case aPt => k_is)
    (case lPt => k_is)
    (case cPt => k_is)
    (case kPt => k_is)
    (case aPs => k_is)
    (case lPs => k_is)
    (case cPs => k_is)
    (case kPs => k_is)
    (case aIs => k_is)
    (case lIs => k_is)
    (case cIs => k_is)
    (case kIs => k_is)
    (case aG => k_is)
    (case lG => k_is)
    (case cG => k_is)
    (case kG => k_is)
    (case aRf => k_is)
    (case lRf => k_is)
    (case cRf => k_is)
    (case kRf => k_is)
    (case aL => k_is)
    (case lL => k_is)
    (case cL_ => k_is)
    (case kL => k_is)
    (case aC => k_is)
    (case aLen => k_is)
    (case iLen => k_is)
    (case lLen => k_is)
    (case cLen => k_is)
    (case kLen => k_is)
    (case aEq => k_is)
    (case iEq => k_is)
    (case lEq => k_is)
    (case cEq => k_is)
    (case kEq => k_is)
    (case aOr => k_is)
    (case iOr => k_is)
    (case lOr => k_is)
    (case cOr => k_is)
    (case kOr => k_is)
    (case aRo => k_is)
    (case iRo => k_is)
    (case lRo => k_is)
    (case cRo => k_is)
    (case kRo => k_is)
    (case aSu => k_is)
    (case iSu => k_is)
    (case lSu => k_is)
    (case cSu => k_is)
    (case kSu => k_is)
    (case aLi => k_is)
    (case iLi => k_is)
    (case lLi => k_is)
    (case cLi => k_is)
    (case kLi => k_is)
    (case aOn => k_is)
    (case iOn => k_is)
    (case lOn => k_is)
    (case cOn => k_is)
    (case kOn => k_is)
    (case aI => k_is)
    (case iI => k_is)
    (case lI => k_is)
    (case cI => k_is)
    (case kI => k_is)
    (case lTd => k_is)
    (case eTd => rfl)
    (case pg => k_is)
    (case hd => k_is)
    (case po => k_is)
    (case sa => k_is)
    (case mk => k_is)
    (case kc => k_is)
    (case nT0 => k_is)
    (case ha => k_is)
    (case hn => k_is)
    (case htk => k_is)
    (case hm => k_is)
    (case me => kernel_rfl)
    (case kt_int => kernel_rfl)
    (case kt_bool => kernel_rfl)
    (case kt_none => kernel_rfl)
    (case kt_str => kernel_rfl)
    (case kt_list => kernel_rfl)
    (case kt_tuple => kernel_rfl)
    (case kt_dict => kernel_rfl)
    (case sb_int => k_is)
    (case sb_bool => k_is)
    (case sb_none => k_is)
    (case sb_str => k_is)
    (case sb_list => k_is)
    (case sb_tuple => k_is)
    (case sb_dict => k_is)
    (case sf => k_is)
    (case nrs => k_is)
    (case nne => k_is)
    (case nC => k_is)
    (case nl => k_is)
    (case nve => kernel_rfl)
    (case nsa => k_is)
    (case nga => k_is)
    (case ngg => k_is)
    (case nno => k_is)
    (case nic => k_is)
    (case ntc => k_is)
    (case nkc => k_is)
    (case nex => k_is)
    (case nty => k_is)
    (case nhd => k_is)
    (case nte => kernel_rfl)
    (case nsu => kernel_rfl)
    (case nsv => k_is)
    (case nse => k_is)
    (case nop => k_is)
    (case nsp => k_is)
    (case nfl => k_is)
    (case nfc => k_is)
    (case ncl => k_is)
    (case ncd => k_is)
    (case ncv => rfl)
    (case z_len => k_is)
    (case z_isinstance => k_is)
    (case z_all => k_is)
    (case z_sorted => k_is)
    (case z_list => k_is)
    (case z_dict => k_is)
    (case z_range => k_is)
    (case z_abs => k_is)
    (case z_int => k_is)
    (case z_str => k_is)
    (case z_tuple => k_is)
    (case z_bool => k_is)
    (case mLe => k_is)
    (case mDi => k_is)
    (case mLo => k_is)
    (case mKe => k_is)
    (case lKe => k_is)
    (case eKc => rfl)
    (case eKd => rfl)
    (case eKs => kernel_rfl)
    (case hTb => kernel_rfl)
    (case hPn => kernel_rfl)
    (case hPt => exact PySem.W.km_tabs_of Y _ (List.mem_singleton.mpr rfl))
    (case htop => kernel_rfl)
    (case hfile => kernel_rfl)
