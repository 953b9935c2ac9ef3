import PyProof.Rows.All
import Wide.All
import OpenK.AllK
import Wide.FinOn
import HandS.ForMost
import HandS.More
import HandS.IsInst
import HandS.ClsMeth
import HandS.FStr
import KE.KCallOwn
import KE.KFmtOwn
import HandS.TupAny
import HandS.SetFor
import HandS.Conv
import HandS.Defaults
import HandS.MakeKwOnly
import HandS.Strs
import HandS.SortInts
import HandS.Star
import HandS.SortKw
import KE.KStar
import KE.KOpsOwn
import HandS.Comp
import HandS.Exc
import HandS.ExcOwn
import HandS.ExcInit
import HandS.ExcField
import HandS.ExcIs
import HandS.WordsExc
import KE.KExcIs
import HandS.Walk
import PySem.Challenge.RW_linkedfilters_k58_answers_put_together
set_option Elab.async false
set_option linter.all false
set_option maxRecDepth 100000
set_option maxHeartbeats 4000000
/-! Rules of our own: ==, != and str by own methods of a plain class, a class called from a slot. -/
namespace Lf
open PySem PySem.Spec PyProof.Rows L2

section
variable {prog : Program} {w : World} {A : Around} {E : Value → Shared → Prop} {s : Shared} {K : PySem.W.Frag} {x C f : Addr} {ox : Obj} {od : Option Obj} {b tb : Value}
theorem ifBound_objNe {M : Model} {args : List Value} {Q : Option Value → Shared → Prop} (X : K.In s.heap) (I : PySem.W.InstAt s.heap x ox C od)
    (hs : PySem.W.findIn K (.ref C) "__ne__" = some (some (.builtin "object.__ne__")))
    (h : wpAny M A (call (.builtin "object.__ne__") (.ref x :: args)) (fun v => Q (some v)) E s) : wpAny M A (callSpecialIfBound? (.ref x) "__ne__" args) Q E s := by
  simp only [callSpecialIfBound?, bindSpecialIfBound?]
  refine wpAny_holding (wpAny_bind (wpAny_bind (wpAny_bind (I.type.here ((PySem.W.looks_findIn X hs).here ?_)))))
  refine wpAny_bind (wpAny_askSetting (wpAny_ite ?_))
  have fin : wpAny M A (call (.builtin "object.__ne__") ([.ref x] ++ args) >>= fun v => pure (some v)) Q E s :=
    wpAny_bind (wpAny_mono h (fun v s' h' => wpAny_pure h') fun _ _ h' => h')
  split
  · exact wpAny_bind (wpAny_of_eq (F.cmp_object.ne.bind _) (wpAny_pure (by exact fin)))
  · exact wpAny_tryCatch (wpAny_bind (wpAny_of_eq (F.cmp_object.ne.bind _) (wpAny_pure (by exact fin))))
theorem call_objNe {Q : Value → Shared → Prop} (hu : A.in1.units < cLine) (X : K.In s.heap) (I : PySem.W.InstAt s.heap x ox C od) (hm : PySem.W.mroIn K C (.type "object") = some true)
    (hs : PySem.W.findIn K (.ref C) "__eq__" = some (some (.ref f))) (hf : PySem.W.isFn K (.ref f) = true)
    (h : wpAny (model prog w) A.in1 (call (.ref f) [.ref x, b]) (fun v s' => ∃ k, v = .bool k ∧ Q (.bool (!k)) s') E s) :
    wpAny (model prog w) A (call (.builtin "object.__ne__") [.ref x, b]) Q E s := by
  refine wpAny_call (codeAny_call_builtin F.cmp_object.ne.plain F.cmpEntry_ne (PySem.W.check_slot F.cmpKind_ne F.cmpSplit_ne (I.type.andThen (PySem.W.looks_mroIn X hm)) (F.cmpArgs_ne _ _) ?_))
  unfold Builtin.«object.__ne__»
  refine wpAny_bind (m := slotArgs "__ne__" 1 _) (wpAny_pure ?_)
  refine wpAny_bind (m := cRoomFor _ _) (wpAny_cRoomFor hu ?_)
  refine wpAny_bind (m := callSpecialIfBound? (.ref x) (Str.ofString "__eq__") _) (PySem.W.ifBound_K X I hs hf (wpAny_mono h (fun r s' hq => ?_) fun _ _ y => y))
  obtain ⟨k, rfl, hq⟩ := hq
  exact wpAny_bind (wpAny_truthy_bool (wpAny_pure hq))
/-- x != b by an own __eq__ that answers a bool -/
theorem cmp_ne_K {Q : Value → Shared → Prop} (hu : A.units < cLine) (hu1 : A.in1.units < cLine) (X : K.In s.heap) (I : PySem.W.InstAt s.heap x ox C od)
    (hb : PySem.W.Looks (model prog w) s.heap (typeOf b) tb) (hn : PySem.W.notFirst K C tb = true) (hm : PySem.W.mroIn K C (.type "object") = some true)
    (hne : PySem.W.findIn K (.ref C) "__ne__" = some (some (.builtin "object.__ne__"))) (hs : PySem.W.findIn K (.ref C) "__eq__" = some (some (.ref f))) (hf : PySem.W.isFn K (.ref f) = true)
    (h : wpAny (model prog w) A.in1 (call (.ref f) [.ref x, b]) (fun v s' => ∃ k, v = .bool k ∧ Q (.bool (!k)) s') E s) :
    wpAny (model prog w) A (richCompare .NotEq (.ref x) b) Q E s := by
  have one : wpAny (model prog w) A (tryCompare (.ref x) "__ne__" b) (fun r s' => ∃ v, r = some v ∧ Q v s') E s := by
    unfold tryCompare
    refine wpAny_bind (ifBound_objNe X I hne (call_objNe hu1 X I hm hs hf (wpAny_mono h (fun v s' hv => ?_) fun _ _ e => e)))
    obtain ⟨k, rfl, hq⟩ := hv
    exact ⟨k, rfl, wpAny_pure ⟨_, rfl, hq⟩⟩
  unfold richCompare
  simp only [oneThing_ref]
  refine wpAny_holding (wpAny_bind (wpAny_cRoomFor hu ?_))
  refine wpAny_bind (I.type.here (wpAny_bind (hb.here ?_)))
  split
  · rename_i q
    have e : PySem.W.subIn K tb (.ref C) = some false := by
      rcases Bool.or_eq_true_iff.mp hn with e | e
      · rw [beq_iff_eq.mp e] at q; simp at q
      · exact beq_iff_eq.mp e
    refine wpAny_bind ((PySem.W.looks_subIn X e).here ?_)
    simp only [Bool.false_eq_true, if_false]
    refine wpAny_bind (wpAny_mono one (fun r s' z => ?_) fun _ _ e => e)
    obtain ⟨v, rfl, hq⟩ := z
    exact wpAny_pure hq
  · refine wpAny_bind (wpAny_pure ?_)
    simp only [Bool.false_eq_true, if_false]
    refine wpAny_bind (wpAny_mono one (fun r s' z => ?_) fun _ _ e => e)
    obtain ⟨v, rfl, hq⟩ := z
    exact wpAny_pure hq
end

theorem cmpback {P : Value → Shared → Prop} {z : V} {v : Value} {s' : Shared} (r : RelV z v) (h : P v s') : PySem.W.CmpBack P v s' := by
  cases z with
  | non => cases (show v = Value.none from r); exact h
  | bl b => cases (show v = Value.bool b from r); exact h
  | int i => obtain ⟨t, e⟩ := (show ∃ t, v = Value.int i t from r); cases e; exact h
  | str x => obtain ⟨t, e⟩ := (show ∃ t, v = Value.str x t from r); cases e; exact h
  | byt b => obtain ⟨t, e⟩ := (show ∃ t, v = Value.bytes b t from r); cases e; exact h
  | flt b => obtain ⟨t, e⟩ := (show ∃ t, v = Value.float b t from r); cases e; exact h
  | ref a => cases (show v = Value.ref a from r); exact h
  | ty n => cases (show v = Value.type n from r); exact h

section
variable {X : Cx} {CX : CXT} {pins : List (Addr × Obj)} {σ : L2.St} {H : Hp} {s : Shared} {a C dx p g : Addr} {fs : List (Str × V)} {n : Nat} {sp : Sp} {E : XK}
theorem run_atR {A : Around} {Q : VK} {us : List Value} {ws : List V} (F : FnR X.prog X.w X.K X.mg X.base CX n g sp) (hr : Room n A) (e0 : Env0 X.prog X.w X.K X.mg X.base A X.stack s H) (hx : Passes CX X E)
    (I : Inv X pins σ H s) (r : Vals ws us) (h : sp ws H Q E) :
    codeAny (model X.prog X.w) A (.call (.ref g) ⟨us, []⟩) (fun r s' => match r with | .ok (.ret v) => EP X pins σ Q v s' | .ok _ => False | .error e => X.xe e s') s := by
  refine codeAny_mono (F A X.stack s H us ws Q E hr e0 r h) fun r s' hq => ?_
  cases r with
  | error e => exact hx pins σ H s e s' I hq
  | ok fl =>
    cases fl with
    | ret u => exact I.after hq
    | next => exact False.elim hq
    | brk => exact False.elim hq
    | cont => exact False.elim hq
/-- x == y, x an instance of C with an own __eq__ -/
def rOwnEq (K : PySem.W.Frag) (C : Addr) (sp : Sp) (E : XK) : R2 := fun x y H Q => ∃ (a dx : Addr) (fs : List (Str × V)) (t : Value), x = .ref a ∧ H a = some (.ins C dx fs) ∧ TyX K H y t ∧ PySem.W.notFirst K C t = true ∧ sp [x, y] H Q E
def rOwnNe (K : PySem.W.Frag) (C : Addr) (sp : Sp) (E : XK) : R2 := fun x y H Q => ∃ (a dx : Addr) (fs : List (Str × V)) (t : Value), x = .ref a ∧ H a = some (.ins C dx fs) ∧ TyX K H y t ∧ PySem.W.notFirst K C t = true ∧
  sp [x, y] H (fun v H' => ∃ k, v = .bl k ∧ Q (.bl (!k)) H') E
theorem op_ownEq (hs : PySem.W.findIn X.K (.ref C) "__eq__" = some (some (.ref g))) (hf : PySem.W.isFn X.K (.ref g) = true) (F : FnR X.prog X.w X.K X.mg X.base CX n g sp) (hr : Room n X.A) (hx : Passes CX X E) :
    OpR X (compareOp .Eq) (rOwnEq X.K C sp E) := by
  intro pins s σ H x y v u Q I rx ry h
  obtain ⟨a, dx, fs, t, rfl, ha, ty, hn, q⟩ := h
  cases (show v = Value.ref a from rx)
  obtain ⟨mA, O, _⟩ := ins_get I.hok ha
  obtain ⟨od, J, _⟩ := O.look
  obtain ⟨P, Z, hp, _⟩ := kit_of I ry ty
  obtain ⟨m, hF⟩ := I.fr
  show wpAny _ _ (richCompare .Eq (.ref a) u) _ _ _
  refine PySem.W.cmp_K (op := .Eq) (tb := t) hr.units0 hF I.ok.mod.kin J (Z.ty _ _ I.kIn hp) hn hs hf ?_
  refine wpAny_mono (wpAny_call (run_fnR (us := [.ref a, u]) (vs := [.ref a, y]) F hr hx I (.cons rfl (.cons ry .nil)) q)) (fun w s' z => ?_) fun _ _ x => x
  obtain ⟨z', H', I', rz, qz⟩ := z
  exact cmpback rz ⟨z', H', I', rz, qz⟩
theorem op_ownNe (hm : PySem.W.mroIn X.K C (.type "object") = some true) (hne : PySem.W.findIn X.K (.ref C) "__ne__" = some (some (.builtin "object.__ne__")))
    (hs : PySem.W.findIn X.K (.ref C) "__eq__" = some (some (.ref g))) (hf : PySem.W.isFn X.K (.ref g) = true) (F : FnR X.prog X.w X.K X.mg X.base CX n g sp) (hr : Room (n + 1) X.A) (hx : Passes CX X E) :
    OpR X (compareOp .NotEq) (rOwnNe X.K C sp E) := by
  intro pins s σ H x y v u Q I rx ry h
  obtain ⟨a, dx, fs, t, rfl, ha, ty, hn, q⟩ := h
  cases (show v = Value.ref a from rx)
  obtain ⟨mA, O, _⟩ := ins_get I.hok ha
  obtain ⟨od, J, _⟩ := O.look
  obtain ⟨P, Z, hp, _⟩ := kit_of I ry ty
  show wpAny _ _ (richCompare .NotEq (.ref a) u) _ _ _
  refine cmp_ne_K (tb := t) hr.units0 hr.in1.units0 I.kIn J (Z.ty _ _ I.kIn hp) hn hm hne hs hf ?_
  refine wpAny_mono (wpAny_call (run_atR (us := [.ref a, u]) (ws := [.ref a, y]) F hr.in1 I.env0.in1 hx I (.cons rfl (.cons ry .nil)) q)) (fun w s' z => ?_) fun _ _ x => x
  obtain ⟨z', H', I', rz, k, ek, qz⟩ := z
  subst ek
  exact ⟨k, rz, .bl (!k), H', I', rfl, qz⟩
/-- str(x) by an own __str__ -/
def rStrOwn (C : Addr) (sp : Sp) (E : XK) : List V → Hp → VK → Prop := fun xs H Q => ∃ (a dx : Addr) (fs : List (Str × V)), xs = [V.ref a] ∧ H a = some (.ins C dx fs) ∧ sp [.ref a] H (fun z H' => ∃ y, z = .str y ∧ Q z H') E
theorem call_strOwn (hs : PySem.W.findIn X.K (.ref C) "__str__" = some (some (.ref g))) (hf : PySem.W.isFn X.K (.ref g) = true) (F : FnR X.prog X.w X.K X.mg X.base CX n g sp) (hr : Room (n + 2) X.A) (hx : Passes CX X E) :
    CallR X (.type "str") (rStrOwn C sp E) := by
  intro pins s σ H xs us Q I r h
  obtain ⟨a, dx, fs, rfl, ha, q⟩ := h
  obtain ⟨u, rfl, ru⟩ := vals1 r
  cases (show u = Value.ref a from ru)
  obtain ⟨mA, O, _⟩ := ins_get I.hok ha
  obtain ⟨od, J, _⟩ := O.look
  have hr2 : Room n X.A.in1.in1 := (show Room (n + 1) X.A.in1 from Room.in1 hr).in1
  refine PySem.W.kso_call hr2.units0 I.kIn J hs hf (wpAny_mono (wpAny_call (run_atR (us := [.ref a]) (ws := [.ref a]) F hr2 I.env0.in1.in1 hx I (.cons rfl .nil) q)) (fun w s' z => ?_) fun _ _ x => x)
  obtain ⟨z', H', I', rz, y, ey, qz⟩ := z
  subst ey
  obtain ⟨t, e⟩ := (show ∃ t, w = Value.str y t from rz)
  cases e
  exact ⟨.str y, H', I', ⟨t, rfl⟩, qz⟩
end

/-- cls(..), the class at C in the i-th slot -/
def tMakeL (i : Nat) (C : Addr) (sp : Sp) (dvs : List V) (E : XK) (t : TA) : TE := fun σ H Q => σ[i]? = some (some (.ref C)) ∧ t σ H fun vs H1 => ∀ x dx, H1 x = none → H1 dx = none → dx ≠ x →
  sp (.ref x :: (vs ++ dvs)) (upd (upd H1 dx (.own x)) x (.ins C dx [])) (fun v H2 => v = .non ∧ Q (.ref x) H2) E
section
variable {X : Cx} {CX : CXT} {k i : Nat} {f C : Addr} {fd : FuncData} {ps : List Str} {sp : Sp} {dvs : List V} {ds : List Value} {E : XK} {x : Str} {p pos : Pos} {e : Expr} {es : List Expr} {t : TA}
theorem pe_makeL (M : Mk X.K C f) (F : FnOk X.prog X.w X.K X.mg X.base CX k f fd ps sp) (hr : Room (k + 1) X.A) (hN : X.N[i]? = some x) (hv : Vis X.env.scope x) (hb : Binds X.K fd ps ds) (hd : Vals dvs ds) (hx : Passes CX X E)
    (ha : PA X (e :: es) t) (hdb : (x == ("__debug__" : Str)) = false := by decide) (hcd : (x == ("__classdict__" : Str)) = false := by decide)
    (he : starEach (e :: es) X.env = (false, eval e X.env) :: starEach es X.env := by rfl) (hpl : (backTo pos (starEach es X.env)).any (·.1) = false := by rfl) :
    PE X (.Call (.Name x p) (e :: es) [] pos) (tMakeL i C sp dvs E t) := by
  refine ⟨fun pins s σ H Q I h => ?_⟩
  obtain ⟨hs, ht⟩ := h
  refine wpAny_Call_Name_kw (thn ((pe_var (pos := p) hN hv hdb hcd).run pins s σ H (fun v H1 => v = .ref C ∧ H1 = H) I ⟨.ref C, hs, rfl, rfl⟩) fun u s1 ⟨v, H1, I1, r1, q1⟩ => ?_)
  obtain ⟨rfl, rfl⟩ := q1
  cases r1
  refine PySem.W.callWith_K (h₀ := X.base) I.ok.mod.kin M.kp (thn (ha.run pos pins s1 σ _ _ I1 ht) fun us s2 ⟨vs, H2, I2, r, q⟩ => ⟨I2.kIn, ?_⟩) he hpl
  exact run_make M F hr hb hd hx I2 r q
end

/-! ### types of values, classes -/
def notRef : Value → Bool
  | .ref _ => false
  | _ => true
def noRefs (l : List Value) : Bool := l.all notRef
theorem noRefs_of {l : List Value} {C : Addr} (h : noRefs l = true) : l.contains (.ref C) = false := by
  induction l with
  | nil => rfl
  | cons v l ih =>
    unfold noRefs at h
    rw [List.all_cons, Bool.and_eq_true] at h
    have h2 : l.contains (.ref C) = false := ih h.2
    rw [List.contains_cons, h2, Bool.or_false]
    cases v with
    | ref a => exact absurd h.1 (by show ¬ (false = true); decide)
    | _ => rfl
theorem sub_ty {K : PySem.W.Frag} {T : String} {C : Addr} (h : (fastBuiltinMro T).any noRefs = true) : PySem.W.subIn K (.type T) (.ref C) = some false := by
  show (fastBuiltinMro T).map (·.contains (.ref C)) = some false
  cases e : fastBuiltinMro T with
  | none => rw [e] at h; cases h
  | some l =>
    rw [e] at h
    exact congrArg some (noRefs_of h)
theorem nf_ty {K : PySem.W.Frag} {T : String} {C : Addr} (h : (fastBuiltinMro T).any noRefs = true) : PySem.W.notFirst K C (.type T) = true := by
  unfold PySem.W.notFirst
  rw [sub_ty h]
  exact Bool.or_true _
theorem nf_own {K : PySem.W.Frag} {C : Addr} : PySem.W.notFirst K C (.ref C) = true := by
  unfold PySem.W.notFirst
  rw [beq_self_eq_true]
  exact Bool.true_or _
theorem mro_str : (fastBuiltinMro "str").any noRefs = true := by decide +kernel
theorem mro_int : (fastBuiltinMro "int").any noRefs = true := by decide +kernel
theorem mro_bool : (fastBuiltinMro "bool").any noRefs = true := by decide +kernel
theorem mro_none : (fastBuiltinMro "NoneType").any noRefs = true := by decide +kernel
theorem mro_tuple : (fastBuiltinMro "tuple").any noRefs = true := by decide +kernel
theorem mro_list : (fastBuiltinMro "list").any noRefs = true := by decide +kernel
/-- what of the text a class must have: its instances are read, compared, asked for their class -/
structure ClsT (K : PySem.W.Frag) (C : Addr) : Prop where
  cl : Cls K C
  ca : PySem.W.findIn K (.ref C) "__class__" = some (some (.builtin "object.__class__"))
  cn : PySem.W.specialIn K (.builtin "object.__class__") "__get__" = some (some (.builtin "getset_descriptor.__get__"))
  ct : PySem.W.takesIn K (.builtin "object.__class__") = some true
  cm : PySem.W.mroIn K C (.type "object") = some true
  isc : ((PySem.W.clsIn K C).isSome && PySem.W.typeIn K (.ref C) == some (.type "type")) = true
  ne : PySem.W.findIn K (.ref C) "__ne__" = some (some (.builtin "object.__ne__"))
theorem isc_mk {K : PySem.W.Frag} {C : Addr} (a : PySem.W.isClsIn K C = true) (b : PySem.W.typeIn K (.ref C) = some (.type "type")) : ((PySem.W.clsIn K C).isSome && PySem.W.typeIn K (.ref C) == some (.type "type")) = true := by
  rw [b, show (PySem.W.clsIn K C).isSome = true from a]
  rfl
theorem ClsT.ty {K : PySem.W.Frag} {C : Addr} (c : ClsT K C) {H : Hp} {a dx : Addr} {fs : List (Str × V)} (h : H a = some (.ins C dx fs)) : TyX K H (.ref a) (.ref C) := .base (.ins h c.cl c.ca c.cn c.ct c.cm)
theorem kit_own {K : PySem.W.Frag} {C : Addr} : PySem.W.kitOne K (.ref C) (.ref C) = some true := by
  unfold PySem.W.kitOne
  rw [beq_self_eq_true]
  exact if_pos rfl
theorem ClsT.kitTy {K : PySem.W.Frag} {C : Addr} (c : ClsT K C) {T : String} (h : (fastBuiltinMro T).any noRefs = true) : PySem.W.kitOne K (.type T) (.ref C) = some false := by
  unfold PySem.W.kitOne
  rw [if_neg (by show ¬ ((Value.type T == Value.ref C) = true); exact fun q => nomatch (beq_iff_eq.mp q))]
  show (if ((PySem.W.clsIn K C).isSome && PySem.W.typeIn K (.ref C) == some (.type "type")) = true then PySem.W.subIn K (.type T) (.ref C) else none) = some false
  rw [if_pos c.isc]
  exact sub_ty h

/-! ### heaps: all but one address stays -/
/-- what stood at another address than b stands -/
def But (b : Addr) (H H' : Hp) : Prop := ∀ q o, H q = some o → q ≠ b → H' q = some o
theorem But.refl {b : Addr} {H : Hp} : But b H H := fun _ _ h _ => h
theorem But.trans {b : Addr} {H H1 H2 : Hp} (x : But b H H1) (y : But b H1 H2) : But b H H2 := fun q o h n => y q o (x q o h n) n
theorem But.of {b : Addr} {H H' : Hp} (s : Same H H') : But b H H' := fun q o h _ => s q o h
theorem But.upd {b : Addr} {H : Hp} {o : HO} : But b H (upd H b o) := fun q u h n => by rw [upd_ne n]; exact h
theorem But.same {b : Addr} {H H' : Hp} (x : But b H H') (h : H b = none) : Same H H' := fun q o e => x q o e (ne_of_none e h)
theorem But.free {b q : Addr} {H H' : Hp} (x : But b H H') (n : q ≠ b) (h : H' q = none) : H q = none := by
  cases e : H q with
  | none => rfl
  | some o => rw [x q o e n] at h; cases h
theorem But.seq {K : PySem.W.Frag} {b a : Addr} {xs : List V} {H H' : Hp} (x : But b H H') (n : a ≠ b) (h : SqL K H a xs) : SqL K H' a xs := by
  rcases h with (h | ⟨o, h⟩) | h
  · exact .inl (.inl (x _ _ h n))
  · exact .inl (.inr ⟨o, x _ _ h n⟩)
  · exact .inr h
theorem Same.new {H : Hp} {p : Addr} {o : HO} (h : H p = none) : Same H (upd H p o) := fun q u e => by
  rw [upd_ne (ne_of_none e h)]; exact e
/-- a new instance is laid -/
theorem Same.make {H : Hp} {x dx C : Addr} {fs : List (Str × V)} (nx : H x = none) (nd : H dx = none) : Same H (L2.upd (L2.upd H dx (.own x)) x (.ins C dx fs)) := fun b o e => by
  rw [upd_ne (ne_of_none e nx), upd_ne (ne_of_none e nd)]; exact e
theorem two_upd {H : Hp} {a : Addr} {o u : HO} : L2.upd (L2.upd H a o) a u = L2.upd H a u := upd_upd

/-! ### attributes -/
theorem lk0 {f : Str} {v : V} {fs : List (Str × V)} : List.lookup f ((f, v) :: fs) = some v := by
  rw [List.lookup_cons]; simp
theorem lk1 {f g : Str} {v : V} {fs : List (Str × V)} (h : (f == g) = false) : List.lookup f ((g, v) :: fs) = List.lookup f fs := by
  rw [List.lookup_cons, h]
theorem pf0 {f : Str} {v : V} : putF f v [] = [(f, v)] := rfl
theorem pf1 {f g : Str} {v u : V} {fs : List (Str × V)} (h : ¬ g = f) : putF f v ((g, u) :: fs) = (g, u) :: putF f v fs := by
  show (if g = f then (g, v) :: fs else (g, u) :: putF f v fs) = _
  rw [if_neg h]

/-! ### readings by short names -/
abbrev rAddI : R2 := rI0 fun i j => .int (i + j)
abbrev rSubI : R2 := rI0 fun i j => .int (i - j)
abbrev rMulI : R2 := rI CMul fun i j => .int (i * j)
abbrev rFdivI : R2 := rI CDiv fun i j => .int (i / j)
abbrev rModI : R2 := rI (fun _ j => 0 < j) fun i j => .int (i % j)
abbrev rPowI : R2 := rI CPow fun i j => .int (i ^ j.toNat)
abbrev rLtI : R2 := rI0 fun i j => .bl (decide (i < j))
abbrev rLeI : R2 := rI0 fun i j => .bl (decide (i ≤ j))
abbrev rGtI : R2 := rI0 fun i j => .bl (decide (j < i))
abbrev rGeI : R2 := rI0 fun i j => .bl (decide (j ≤ i))
abbrev rNegI : V → Hp → VK → Prop := rU fun i => .int (-i)
abbrev rAddS : R2 := fun x y H Q => ∃ i j, x = .str i ∧ y = .str j ∧ i.length + j.length ≤ sizeLine ∧ Q (.str (i ++ j)) H
abbrev rIsNn : R2 := fun x y H Q => y = .non ∧ Q (.bl (decide (x = .non))) H
abbrev rNotNn : R2 := fun x y H Q => y = .non ∧ Q (.bl (!decide (x = .non))) H
abbrev rLenSq (K : PySem.W.Frag) : List V → Hp → VK → Prop := fun xs H Q => ∃ p ys, xs = [.ref p] ∧ (SqL K H p ys ∨ SqT K H p ys) ∧ Q (.int ys.length) H
abbrev rStrI : List V → Hp → VK → Prop := fun xs H Q => ∃ i, xs = [.int i] ∧ i.natAbs.log2 < 1920 ∧ Q (.str (toString i)) H

/-! ### new objects, by what is true of the heap behind them -/
section
variable {X : Cx} {e : Expr} {es : List Expr} {t t' : TE} {ta : TA} {pos : Pos}
theorem PE.weak (h : PE X e t) (k : ∀ σ H Q, t' σ H Q → t σ H Q) : PE X e t' := ⟨fun pins s σ H Q I q => h.run pins s σ H Q I (k σ H Q q)⟩
def tTupS (t : TA) : TE := fun σ H Q => t σ H fun xs H1 => xs.length ≤ sizeLine ∧ ∀ p H', H1 p = none → Same H1 H' → H' p = some (.tup xs) → Q (.ref p) H'
def tLstS (t : TA) : TE := fun σ H Q => t σ H fun xs H1 => xs.length ≤ sizeLine ∧ ∀ p H', H1 p = none → Same H1 H' → H' p = some (.lst xs) → Q (.ref p) H'
theorem pe_tupS {x1} (h : PA X es ta) : PE X (.Tuple es x1 pos) (tTupS ta) := by
  refine ⟨fun pins s σ H Q I hq => ?_⟩
  refine wpAny_Tuple_spliced (thn (h.run pos pins s σ H _ I hq) fun us s1 ⟨xs, H1, I1, r, z, q⟩ => ⟨by rw [← r.length]; exact z, ?_⟩)
  have hf : H1 s1.heap.objs.size = none := I1.hok.fresh (Nat.le_refl _)
  refine ⟨.ref s1.heap.objs.size, L2.upd H1 s1.heap.objs.size (.tup xs), I1.laid (t' := s1.toks) (fun b u e => Heap.get?_push_of_some _ e) (Nat.le_refl _) ?_, rfl, q _ _ hf (Same.new hf) upd_same⟩
  exact ⟨z, us, r, ⟨_, Heap.get?_push_size _ rfl, rfl, _, rfl⟩⟩
theorem pe_lstS (h : PA X es ta) : PE X (.List es pos) (tLstS ta) := by
  refine ⟨fun pins s σ H Q I hq => ?_⟩
  refine wpAny_List_spliced (thn (h.run pos pins s σ H _ I hq) fun us s1 ⟨xs, H1, I1, r, z, q⟩ => ⟨by rw [← r.length]; exact z, ?_⟩)
  have hf : H1 s1.heap.objs.size = none := I1.hok.fresh (Nat.le_refl _)
  refine ⟨.ref s1.heap.objs.size, L2.upd H1 s1.heap.objs.size (.lst xs), I1.laid (t' := s1.toks) (fun b u e => Heap.get?_push_of_some _ e) (Nat.le_refl _) ?_, rfl, q _ _ hf (Same.new hf) upd_same⟩
  exact ⟨z, us, 0, r, Heap.get?_push_size _ rfl⟩
def rCatS : R2 := fun x y H Q => ∃ l b xs zs, x = .ref l ∧ y = .ref b ∧ H l = some (.lst xs) ∧ H b = some (.lst zs) ∧ xs.length + zs.length ≤ sizeLine ∧ ∀ p H', H p = none → Same H H' → H' p = some (.lst (xs ++ zs)) → Q (.ref p) H'
theorem op_catS : OpR X (binaryOp .Add) rCatS := by
  intro pins s σ H x y v u Q I rx ry h
  obtain ⟨l, b, xs, zs, h1, h2, h3, h4, h5, h6⟩ := h
  exact op_cat pins s σ H x y v u Q I rx ry ⟨l, b, xs, zs, h1, h2, h3, h4, h5, fun p hp => h6 p _ hp (Same.new hp) upd_same⟩
def rSlLS (K : PySem.W.Frag) : V → Option Int → Option Int → Hp → VK → Prop := fun x lo hi H Q => ∃ a xs, x = .ref a ∧ SqL K H a xs ∧ ∀ p H', H p = none → Same H H' → H' p = some (.lst (cutV xs lo hi)) → Q (.ref p) H'
theorem sl_listS : SlR X (rSlLS X.K) := by
  intro pins s σ H x v vl vu lo hi sl Q I rx hs pl pu h
  obtain ⟨a, xs, h1, h2, h3⟩ := h
  exact sl_list pins s σ H x v vl vu lo hi sl Q I rx hs pl pu ⟨a, xs, h1, h2, fun p hp => h3 p _ hp (Same.new hp) upd_same⟩
def rListOfS (K : PySem.W.Frag) : List V → Hp → VK → Prop := fun xs H Q => ∃ p ys, xs = [.ref p] ∧ (SqL K H p ys ∨ SqT K H p ys) ∧ ∀ l H', H l = none → Same H H' → H' l = some (.lst ys) → Q (.ref l) H'
theorem call_list_ofS : CallR X (.type "list") (rListOfS X.K) := by
  intro pins s σ H xs us Q I r h
  obtain ⟨p, ys, h1, h2, h3⟩ := h
  exact call_list_of pins s σ H xs us Q I r ⟨p, ys, h1, h2, fun l hl => h3 l _ hl (Same.new hl) upd_same⟩
end
/-- a new object at x, whatever its attributes: what stood before stands -/
theorem made_same {H H' : Hp} {x dx C : Addr} {fs : List (Str × V)} (nx : H x = none) (nd : H dx = none) (b : But x (L2.upd (L2.upd H dx (.own x)) x (.ins C dx fs)) H') : Same H H' := fun q o e =>
  b q o (by rw [upd_ne (ne_of_none e nx), upd_ne (ne_of_none e nd)]; exact e) (ne_of_none e nx)
end Lf

set_option Elab.async false
set_option linter.all false
set_option maxRecDepth 100000
set_option maxHeartbeats 4000000
/-! len, in, subscripts and slices by own methods; count of tuples. -/
namespace Lf
open PySem PySem.Spec PyProof.Rows L2
section
variable {X : Cx} {CX : CXT} {pins : List (Addr × Obj)} {σ : L2.St} {H : Hp} {s : Shared} {C g : Addr} {n : Nat} {sp : Sp} {E : XK}
/-- len(x) by an own __len__ -/
def rLenOwn (C : Addr) (sp : Sp) (E : XK) : List V → Hp → VK → Prop := fun xs H Q => ∃ (a dx : Addr) (fs : List (Str × V)), xs = [V.ref a] ∧ H a = some (.ins C dx fs) ∧ sp [.ref a] H (fun z H' => ∃ i : Int, z = .int i ∧ 0 ≤ i ∧ i < 2 ^ 63 ∧ Q z H') E
theorem call_lenOwn (hs : PySem.W.findIn X.K (.ref C) "__len__" = some (some (.ref g))) (hf : PySem.W.isFn X.K (.ref g) = true) (F : FnR X.prog X.w X.K X.mg X.base CX n g sp) (hr : Room (n + 1) X.A) (hx : Passes CX X E) :
    CallR X (.builtin "len") (rLenOwn C sp E) := by
  intro pins s σ H xs us Q I r h
  obtain ⟨a, dx, fs, rfl, ha, q⟩ := h
  obtain ⟨u, rfl, ru⟩ := vals1 r
  cases (show u = Value.ref a from ru)
  obtain ⟨mA, O, _⟩ := ins_get I.hok ha
  obtain ⟨od, J, _⟩ := O.look
  obtain ⟨m, hF⟩ := I.fr
  refine PySem.W.len_K hF I.ok.mod.kin J hs hf (wpAny_mono (wpAny_call (run_atR (us := [.ref a]) (ws := [.ref a]) F hr.in1 I.env0.in1 hx I (.cons rfl .nil) q)) (fun w s' z => ?_) fun _ _ x => x)
  obtain ⟨z', H', I', rz, i, ei, i0, i1, qz⟩ := z
  subst ei
  obtain ⟨t, e⟩ := (show ∃ t, w = Value.int i t from rz)
  cases e
  exact ⟨⟨i0, i1⟩, .int i, H', I'.tok _, ⟨_, rfl⟩, qz⟩
/-- v in x by an own __contains__ that answers a bool -/
def rInOwn (C : Addr) (sp : Sp) (E : XK) (neg : Bool) : R2 := fun x y H Q => ∃ (a dx : Addr) (fs : List (Str × V)), y = .ref a ∧ H a = some (.ins C dx fs) ∧ sp [y, x] H (fun z H' => ∃ b, z = .bl b ∧ Q (.bl (if neg then !b else b)) H') E
theorem op_inOwn (hs : PySem.W.findIn X.K (.ref C) "__contains__" = some (some (.ref g))) (hf : PySem.W.isFn X.K (.ref g) = true) (F : FnR X.prog X.w X.K X.mg X.base CX n g sp) (hr : Room n X.A) (hx : Passes CX X E) :
    OpR X (compareOp .In) (rInOwn C sp E false) := by
  intro pins s σ H x y v u Q I rx ry h
  obtain ⟨a, dx, fs, rfl, ha, q⟩ := h
  cases (show u = Value.ref a from ry)
  obtain ⟨mA, O, _⟩ := ins_get I.hok ha
  obtain ⟨od, J, _⟩ := O.look
  obtain ⟨m, hF⟩ := I.fr
  refine PySem.W.in_K hF I.ok.mod.kin J hs hf (wpAny_mono (wpAny_call (run_fnR (us := [.ref a, v]) (vs := [.ref a, x]) F hr hx I (.cons rfl (.cons rx .nil)) q)) (fun w s' z => ?_) fun _ _ x => x)
  obtain ⟨z', H', I', rz, b, eb, qz⟩ := z
  subst eb
  cases (show w = Value.bool b from rz)
  exact wpAny_truthy_bool ⟨.bl b, H', I', rfl, qz⟩
theorem op_notInOwn (hs : PySem.W.findIn X.K (.ref C) "__contains__" = some (some (.ref g))) (hf : PySem.W.isFn X.K (.ref g) = true) (F : FnR X.prog X.w X.K X.mg X.base CX n g sp) (hr : Room n X.A) (hx : Passes CX X E) :
    OpR X (compareOp .NotIn) (rInOwn C sp E true) := by
  intro pins s σ H x y v u Q I rx ry h
  obtain ⟨a, dx, fs, rfl, ha, q⟩ := h
  cases (show u = Value.ref a from ry)
  obtain ⟨mA, O, _⟩ := ins_get I.hok ha
  obtain ⟨od, J, _⟩ := O.look
  obtain ⟨m, hF⟩ := I.fr
  refine PySem.W.notIn_K hF I.ok.mod.kin J hs hf (wpAny_mono (wpAny_call (run_fnR (us := [.ref a, v]) (vs := [.ref a, x]) F hr hx I (.cons rfl (.cons rx .nil)) q)) (fun w s' z => ?_) fun _ _ x => x)
  obtain ⟨z', H', I', rz, b, eb, qz⟩ := z
  subst eb
  cases (show w = Value.bool b from rz)
  exact wpAny_truthy_bool ⟨.bl (!b), H', I', rfl, qz⟩
/-! ### subscripts -/
/-- x[i] by an own __getitem__ -/
def rIxOwn (C : Addr) (sp : Sp) (E : XK) : R2 := fun x y H Q => ∃ (a dx : Addr) (fs : List (Str × V)), x = .ref a ∧ H a = some (.ins C dx fs) ∧ sp [x, y] H Q E
theorem pe_ixOwn {a b : Expr} {ta tb : TE} {pos : Pos} (hs : PySem.W.findIn X.K (.ref C) "__getitem__" = some (some (.ref g))) (hfi : PySem.W.fnIn X.K g = true) (hf : PySem.W.isFn X.K (.ref g) = true)
    (F : FnR X.prog X.w X.K X.mg X.base CX n g sp) (hr : Room (n + 1) X.A) (hx : Passes CX X E) (ha : PE X a ta) (hb : PE X b tb)
    (hsl : ∀ (x : Addr) (i : Value), subscripted b true (.ref x) i = runValue (.builtin "lifetime.subscript" ⟨[.ref x, i], []⟩)) : PE X (.Subscript a b pos) (tOp (rIxOwn C sp E) ta tb) := by
  refine ⟨fun pins s σ H Q I h => ?_⟩
  refine Subscript_ (binT ha hb I h fun v u s2 x y H2 I2 rx ry q => ?_)
  obtain ⟨p, dx, fs, rfl, hp, q⟩ := q
  cases (show v = Value.ref p from rx)
  obtain ⟨mA, O, _⟩ := ins_get I2.hok hp
  obtain ⟨od, J, _⟩ := O.look
  obtain ⟨m, hF⟩ := I2.fr
  exact PySem.W.sub_K hF I2.ok.mod.kin J hs hfi hf (wpAny_mono (wpAny_call (run_atR (us := [.ref p, u]) (ws := [.ref p, y]) F hr.in1 I2.env0.in1 hx I2 (.cons rfl (.cons ry .nil)) q)) (fun _ _ z => z) fun _ _ x => x) (hsl p u)
/-- a slice object -/
def SliceO (sl : Addr) (lo hi : Option Int) : HO := .ext fun h => ∃ vl vu, h.IsSliceOf sl vl vu .none ∧ IsPart vl lo ∧ IsPart vu hi
def tSlOwn (C : Addr) (sp : Sp) (E : XK) (te : TE) (tl th : TO) : TE := fun σ H Q => te σ H fun x H1 => tl σ H1 fun l H2 => th σ H2 fun u H3 => ∃ (a dx : Addr) (fs : List (Str × V)), x = .ref a ∧ H3 a = some (.ins C dx fs) ∧
  ∀ p H', H3 p = none → Same H3 H' → H' p = some (SliceO p l u) → sp [x, .ref p] H' Q E
theorem sub_sliceK {prog : Program} {w : World} {A : Around} {E : Value → Shared → Prop} {s : Shared} {K : PySem.W.Frag} {x C L f : Addr} {h₀ : Heap} {m : Str → Option Value} {ox : Obj} {od : Option Obj} {value : Expr} {lo hi : Option Expr} {p2 : Pos} {i : Value} {Q : Value → Shared → Prop} (F : Fr h₀ L s.heap m) (X₀ : K.In h₀) (I : PySem.W.InstAt s.heap x ox C od)
    (hq : PySem.W.noSeq K C = true) (hs : PySem.W.findIn K (.ref C) "__getitem__" = some (some (.ref f))) (hf : PySem.W.fnIn K f = true) (hfn : PySem.W.isFn K (.ref f) = true)
    (h : wpAny (model prog w) A (call (.ref f) [.ref x, i]) Q E s) : wpAny (model prog w) A (subscriptTail value (.Slice lo hi none p2) (.ref x) i) Q E s := by
  have X := X₀.keeps F.keep
  unfold PySem.W.fnIn at hf
  split at hf
  · rename_i e
    unfold subscriptTail getitemInPython
    refine wpAny_bind (wpAny_bind (wpAny_bind (I.type.here ((PySem.W.looks_findIn X hs).here ?_))))
    dsimp only
    refine wpAny_bind (wpAny_load (X _ _ e) (wpAny_pure ?_))
    dsimp only
    show wpAny (model prog w) A (operate [i, .ref x] (getItem (.ref x) i) >>= _) Q E s
    refine wpAny_bind (wpAny_operateT (PySem.W.getItem_K F X₀ I hq hs hfn (wpAny_mono h (fun v s' z => ?_) fun _ _ z => z)))
    exact wpAny_bind (wpAny_letTemporaryGo (wpAny_pure z))
  · cases hf
theorem pe_sliceOwn {e : Expr} {te : TE} {lo hi : Option Expr} {tl th : TO} {pos p2 : Pos} (hq : PySem.W.noSeq X.K C = true) (hs : PySem.W.findIn X.K (.ref C) "__getitem__" = some (some (.ref g))) (hfi : PySem.W.fnIn X.K g = true) (hf : PySem.W.isFn X.K (.ref g) = true)
    (F : FnR X.prog X.w X.K X.mg X.base CX n g sp) (hr : Room n X.A) (hx : Passes CX X E) (he : PE X e te) (hl : PO X lo tl) (hu : PO X hi th) :
    PE X (.Subscript e (.Slice lo hi none p2) pos) (tSlOwn C sp E te tl th) := by
  refine ⟨fun pins s σ H Q I h => ?_⟩
  refine Subscript_ (thn (he.run pins s σ H _ I h) fun v s1 ⟨x, H1, I1, r1, q1⟩ => ?_)
  refine wpAny_Slice (thn (hl.run pins s1 σ H1 _ I1 q1) fun vl s2 ⟨l, H2, I2, pl, q2⟩ => thn (hu.run pins s2 σ H2 _ I2 q2) fun vu s3 ⟨u, H3, I3, pu, q3⟩ => ?_)
  rw [evalPart_none]
  refine wpAny_pure ?_
  have hn : H3 s3.heap.objs.size = none := I3.hok.fresh (Nat.le_refl _)
  have kp : ∀ b ob, s3.heap.get? b = some ob → (s3.heap.push { cls := .type "slice", data := .fields #[vl, vu, .none] }).get? b = some ob := fun b ob q => Heap.get?_push_of_some _ q
  have new : ObjOk X.prog X.w (L2.upd H3 s3.heap.objs.size (SliceO s3.heap.objs.size l u)) (s3.heap.push { cls := .type "slice", data := .fields #[vl, vu, .none] }) s3.heap.objs.size (SliceO s3.heap.objs.size l u) := by
    refine ⟨⟨vl, vu, Heap.IsSliceOf.new .., pl, pu⟩, ⟨_, Heap.get?_push_size _ rfl⟩, fun h1 h2 z k => ?_⟩
    obtain ⟨a1, a2, ⟨o, z1, z2⟩, z3⟩ := z
    exact ⟨a1, a2, ⟨o, k o z1, z2⟩, z3⟩
  have I4 := I3.laid (t' := s3.toks) kp (Nat.le_refl _) new
  obtain ⟨p, dx, fs, rfl, hp, q⟩ := q3
  cases (show v = Value.ref p from r1)
  have hp4 := Same.new (o := SliceO s3.heap.objs.size l u) hn p _ hp
  obtain ⟨mA, O, _⟩ := ins_get I4.hok hp4
  obtain ⟨od, J, _⟩ := O.look
  obtain ⟨m, hF⟩ := I4.fr
  show wpAny (model X.prog X.w) X.A (subscriptTail e (.Slice lo hi none p2) (.ref p) (.ref s3.heap.objs.size)) (EP X pins σ Q) X.xe { s3 with heap := s3.heap.push { cls := .type "slice", data := .fields #[vl, vu, .none] } }
  refine sub_sliceK hF I4.ok.mod.kin J hq hs hfi hf ?_
  exact wpAny_mono (wpAny_call (run_fnR (us := [.ref p, .ref s3.heap.objs.size]) (vs := [.ref p, .ref s3.heap.objs.size]) F hr hx I4 (.cons rfl (.cons rfl .nil)) (q _ _ hn (Same.new hn) upd_same))) (fun _ _ z => z) fun _ _ x => x
/-- t[i], t a tuple, i an int or a slice object -/
def rIxTS (K : PySem.W.Frag) : R2 := fun x y H Q => rIxT K x y H Q ∨ ∃ (sl : Addr) (lo hi : Option Int), y = .ref sl ∧ H sl = some (SliceO sl lo hi) ∧ rSlA K x lo hi H Q
theorem ix_tupS : IxR X (rIxTS X.K) := by
  intro value slice pins s σ H x y v u Q I rx ry h hs
  rcases h with h | ⟨sl, lo, hi, rfl, hsl, q⟩
  · exact ix_tup value slice pins s σ H x y v u Q I rx ry h hs
  · cases (show u = Value.ref sl from ry)
    obtain ⟨⟨vl, vu, z1, z2, z3⟩, _⟩ := (show ObjOk X.prog X.w H s.heap sl (SliceO sl lo hi) from I.hok sl _ hsl)
    obtain ⟨T, id, hT, ht, hg⟩ := sl_tupA pins s σ H x v vl vu lo hi sl Q I rx z1 z2 z3 q
    exact tail_any (ops := [v, .ref sl]) ht hT hg hs
/-! ### tuples of which the object is known: their methods -/
/-- a tuple of xs at a, of the built-in class itself -/
def TupD (H : Hp) (a : Addr) (xs : List V) : Prop := ∃ o : Obj, H a = some (.frz o (.tup xs)) ∧ o.dict = none ∧ o.cls = .type "tuple"
theorem TupD.keep {H H' : Hp} {a : Addr} {xs : List V} (h : TupD H a xs) (s : Same H H') : TupD H' a xs := by
  obtain ⟨o, h1, h2⟩ := h
  exact ⟨o, s _ _ h1, h2⟩
theorem TupD.but {H H' : Hp} {a b : Addr} {xs : List V} (h : TupD H a xs) (s : But b H H') (n : a ≠ b) : TupD H' a xs := by
  obtain ⟨o, h1, h2⟩ := h
  exact ⟨o, s _ _ h1 n, h2⟩
theorem TupD.ne {H : Hp} {a b : Addr} {xs : List V} (h : TupD H a xs) (n : H b = none) : a ≠ b := by
  obtain ⟨o, h1, h2⟩ := h
  exact ne_of_none h1 n
theorem TupD.seq {K : PySem.W.Frag} {H : Hp} {a : Addr} {xs : List V} (h : TupD H a xs) : SqT K H a xs := by
  obtain ⟨o, h1, _⟩ := h
  exact .inl (.inr ⟨o, h1⟩)
theorem TupD.ty {K : PySem.W.Frag} {H : Hp} {a : Addr} {xs : List V} (h : TupD H a xs) : TyX K H (.ref a) (.type "tuple") := by
  obtain ⟨o, h1, _⟩ := h
  exact .fTuple h1
/-- tuple(list): a new one, known -/
def rTupleD (K : PySem.W.Frag) : List V → Hp → VK → Prop := fun xs H Q => ∃ p ys, xs = [.ref p] ∧ SqL K H p ys ∧ ∀ l H', H l = none → Same H H' → TupD H' l ys → Q (.ref l) H'
theorem call_tupleD : CallR X (.type "tuple") (rTupleD X.K) := by
  intro pins s σ H xs us Q I r h
  obtain ⟨p, ys, rfl, hq, q⟩ := h
  obtain ⟨u, rfl, rx⟩ := vals1 r
  cases rx
  obtain ⟨its, r', pl, hz⟩ := I.list hq
  have hlen := r'.length
  refine call_tuple_list pl.isList (fun h' kp => ?_) (by simp only [List.size_toArray] <;> omega)
  have I1 : L2.Inv X pins σ H { s with heap := h' } := I.kept (t' := s.toks) kp
  have hn := I1.hok.fresh (Nat.le_refl h'.objs.size)
  have I2 : L2.Inv X pins σ (L2.upd H h'.objs.size (.frz { cls := .type "tuple", data := .seq its.toArray } (.tup ys))) { s with heap := h'.push { cls := .type "tuple", data := .seq its.toArray } } :=
    I1.laid (t' := s.toks) (fun b o e => Heap.get?_push_of_some _ e) (Nat.le_refl _) (show ObjOk X.prog X.w _ _ _ (.frz _ (.tup ys)) from ⟨Heap.get?_push_size _ rfl, hz, its, r', IsTup.new _ _⟩)
  exact ⟨.ref h'.objs.size, _, I2, rfl, q _ _ hn (Same.new hn) ⟨_, upd_same, rfl, rfl⟩⟩
/-- a method of such a tuple -/
def tBMT (r : V → List V → Hp → VK → Prop) (to : TE) (t : TA) : TE := fun σ H Q => to σ H fun x H1 => (∃ p xs, x = .ref p ∧ TupD H1 p xs) ∧ t σ H1 fun xs H2 => r x xs H2 Q
theorem pe_bmT {o e : Expr} {es : List Expr} {to : TE} {t : TA} {name : Str} {apos cpos : Pos} {id : String} {r : V → List V → Hp → VK → Prop} (pa : PlainAttrs "tuple") (slot : Slot "tuple" name id) (hty : typeOf (.builtin id) = pure (.type "method_descriptor")) (hm : MtR X id r) (ho : PE X o to) (ha : PA X (e :: es) t)
    (hbase : attributeBase o name X.env (eval o X.env) = eval o X.env := by rfl)
    (hfew : ((backTo cpos (starEach (e :: es) X.env)).all (fun x => !x.1) && (backToKw cpos (keywordEach [] X.env)).all (fun x => x.1.isSome)
      && decide ((e :: es).length + ([] : List Keyword).length + (if ([] : List Keyword).isEmpty then 0 else 1) < 30)) = true := by rfl)
    (hline : (apos.endLine == cpos.line) = true := by rfl) (hs : starEach (e :: es) X.env = (false, eval e X.env) :: starEach es X.env := by rfl) (hplain : (backTo cpos (starEach es X.env)).any (·.1) = false := by rfl) :
    PE X (.Call (.Attribute o name apos) (e :: es) [] cpos) (tBMT r to t) := by
  refine ⟨fun pins s σ H Q I h => ?_⟩
  refine wpAny_Call_method_late hbase hfew hline rfl (thn (ho.run pins s σ H _ I h) fun v s1 ⟨x, H1, I1, r1, ty, q1⟩ => ?_)
  obtain ⟨p, xs, rfl, ob, hp, hd, hc⟩ := ty
  cases (show v = Value.ref p from r1)
  obtain ⟨hg, _⟩ := (show ObjOk X.prog X.w H1 s1.heap p (.frz ob (.tup xs)) from I1.hok p _ hp)
  refine ⟨"tuple", id, pa, slot, hty, ⟨ob, hg, hc⟩, fun b eb => by cases eb; exact ⟨ob, hg, hd⟩, ?_⟩
  have hA := ha.run cpos pins s1 σ H1 _ I1 q1
  rw [hs] at hA ⊢
  refine Calls.callWith_builtin (by show (false || (backTo cpos (starEach es X.env)).any (·.1)) = false; rw [hplain] <;> rfl) (Calls.evalArgs_plain ?_)
  exact thn hA fun us s2 ⟨vs, H2, I2, r2, q2⟩ => hm pins s2 σ H2 (.ref p) vs (.ref p) us Q I2 rfl r2 q2
def rCntT (K : PySem.W.Frag) : V → List V → Hp → VK → Prop := fun x xs H Q => ∃ (p : Addr) (ns : List Int) (k : Int), x = .ref p ∧ xs = [.int k] ∧ SqT K H p (ns.map V.int) ∧ Q (.int (ns.count k : Nat)) H
theorem mt_tcount : MtR X "tuple.count" (rCntT X.K) := by
  intro pins s σ H x xs v us Q I rx rxs h
  obtain ⟨p, ns, k, rfl, rfl, hs, q⟩ := h
  cases rx
  obtain ⟨u, rfl, ru⟩ := vals1 rxs
  obtain ⟨t, rfl⟩ := ru
  obtain ⟨its, rv, ⟨⟨cls, dd, data, sl⟩, ho, hc, n, hd⟩, hlen⟩ := I.tuple hs
  simp only at hc hd
  subst hc hd
  have hi := ints_of_vals rv
  refine call_meets PySem.F.slot_tuple_count ⟨_, ho, rfl⟩ PySem.F.entry_tuple_count (PySem.F.args_tuple_count_2 _ _)
    (SeqAt.tuple_countAt p its.toArray n dd sl (.int k t) (eqk k)) ⟨ho, fun y hy => (eqk_gives hi y (by simpa using hy)).at _ _, ?_⟩
  have ec : its.toArray.toList.countP (eqk k) = ns.count k := eqk_count hi
  refine ⟨.int (ns.count k : Nat), H, I.tok _, ⟨s.toks, ?_⟩, q⟩
  show Value.int ((its.toArray.toList.countP (eqk k) : Nat) : Int) s.toks = Value.int ((ns.count k : Nat) : Int) s.toks
  rw [ec]
end
/-! ### data: lists and tuples of ints compared -/
theorem dp_ints {K : PySem.W.Frag} {H : Hp} : ∀ ns : List Int, DpAll K H (ns.map V.int) (ns.map PyData.int)
  | [] => .nil
  | n :: ns => .cons (.int n) (dp_ints ns)
theorem eqv_ints : ∀ ns ms : List Int, PyData.eqvAll (ns.map PyData.int) (ms.map PyData.int) = decide (ns = ms)
  | [], [] => rfl
  | [], m :: ms => by rw [decide_eq_false (by simp)]; rfl
  | n :: ns, [] => by rw [decide_eq_false (by simp)]; rfl
  | n :: ns, m :: ms => by
    show (n == m && PyData.eqvAll (ns.map PyData.int) (ms.map PyData.int)) = decide (n :: ns = m :: ms)
    rw [eqv_ints ns ms]
    by_cases h1 : n = m
    · by_cases h2 : ns = ms
      · rw [h1, h2]; simp
      · rw [h1]; simp [h2]
    · simp [h1]
theorem lay_ints : ∀ ns : List Int, PyData.canLayAll0 (ns.map PyData.int) = true
  | [] => by simp only [List.map_nil, PyData.canLayAll0]
  | n :: ns => by simp only [List.map_cons, PyData.canLayAll0, PyData.canLay0, lay_ints ns, Bool.and_self]
theorem deep_ints : ∀ ns : List Int, PyData.depthAll (ns.map PyData.int) = 0
  | [] => by simp only [List.map_nil, PyData.depthAll]
  | n :: ns => by simp only [List.map_cons, PyData.depthAll, PyData.depth, deep_ints ns, Nat.max_self]
theorem shaped_intsL (ns : List Int) : SeqAt.shaped (.list (ns.map PyData.int)) = true := by
  unfold SeqAt.shaped
  simp only [PyData.canLay0, lay_ints, PyData.depth, deep_ints]
  decide
theorem shaped_intsT (ns : List Int) : SeqAt.shaped (.tuple (ns.map PyData.int)) = true := by
  unfold SeqAt.shaped
  simp only [PyData.canLay0, lay_ints, PyData.depth, deep_ints]
  decide
section
variable {X : Cx}
def rEqIL (K : PySem.W.Frag) : R2 := fun x y H Q => ∃ (p q : Addr) (ns ms : List Int), x = .ref p ∧ y = .ref q ∧ SqL K H p (ns.map V.int) ∧ SqL K H q (ms.map V.int) ∧ Q (.bl (decide (ns = ms))) H
def rNeIL (K : PySem.W.Frag) : R2 := fun x y H Q => ∃ (p q : Addr) (ns ms : List Int), x = .ref p ∧ y = .ref q ∧ SqL K H p (ns.map V.int) ∧ SqL K H q (ms.map V.int) ∧ Q (.bl (!decide (ns = ms))) H
def rEqIT (K : PySem.W.Frag) : R2 := fun x y H Q => ∃ (p q : Addr) (ns ms : List Int), x = .ref p ∧ y = .ref q ∧ SqT K H p (ns.map V.int) ∧ SqT K H q (ms.map V.int) ∧ Q (.bl (decide (ns = ms))) H
def rNeIT (K : PySem.W.Frag) : R2 := fun x y H Q => ∃ (p q : Addr) (ns ms : List Int), x = .ref p ∧ y = .ref q ∧ SqT K H p (ns.map V.int) ∧ SqT K H q (ms.map V.int) ∧ Q (.bl (!decide (ns = ms))) H
theorem op_eqIL (hu : X.A.units + 64 < cLine) : OpR X (compareOp .Eq) (rEqIL X.K) := by
  intro pins s σ H x y v u Q I rx ry h
  obtain ⟨p, q, ns, ms, rfl, rfl, h1, h2, h3⟩ := h
  refine op_eqD hu pins s σ H _ _ v u Q I rx ry ⟨_, _, .lst h1 (dp_ints ns), .lst h2 (dp_ints ms), shaped_intsL ns, shaped_intsL ms, ?_⟩
  show Q (.bl (PyData.eqvAll (ns.map PyData.int) (ms.map PyData.int))) H
  rw [eqv_ints]
  exact h3
theorem op_neIL (hu : X.A.units + 64 < cLine) : OpR X (compareOp .NotEq) (rNeIL X.K) := by
  intro pins s σ H x y v u Q I rx ry h
  obtain ⟨p, q, ns, ms, rfl, rfl, h1, h2, h3⟩ := h
  refine op_neD hu pins s σ H _ _ v u Q I rx ry ⟨_, _, .lst h1 (dp_ints ns), .lst h2 (dp_ints ms), shaped_intsL ns, shaped_intsL ms, ?_⟩
  show Q (.bl (!PyData.eqvAll (ns.map PyData.int) (ms.map PyData.int))) H
  rw [eqv_ints]
  exact h3
theorem op_eqIT (hu : X.A.units + 64 < cLine) : OpR X (compareOp .Eq) (rEqIT X.K) := by
  intro pins s σ H x y v u Q I rx ry h
  obtain ⟨p, q, ns, ms, rfl, rfl, h1, h2, h3⟩ := h
  refine op_eqD hu pins s σ H _ _ v u Q I rx ry ⟨_, _, .tup h1 (dp_ints ns), .tup h2 (dp_ints ms), shaped_intsT ns, shaped_intsT ms, ?_⟩
  show Q (.bl (PyData.eqvAll (ns.map PyData.int) (ms.map PyData.int))) H
  rw [eqv_ints]
  exact h3
theorem op_neIT (hu : X.A.units + 64 < cLine) : OpR X (compareOp .NotEq) (rNeIT X.K) := by
  intro pins s σ H x y v u Q I rx ry h
  obtain ⟨p, q, ns, ms, rfl, rfl, h1, h2, h3⟩ := h
  refine op_neD hu pins s σ H _ _ v u Q I rx ry ⟨_, _, .tup h1 (dp_ints ns), .tup h2 (dp_ints ms), shaped_intsT ns, shaped_intsT ms, ?_⟩
  show Q (.bl (!PyData.eqvAll (ns.map PyData.int) (ms.map PyData.int))) H
  rw [eqv_ints]
  exact h3
end

section
variable {X : Cx}
def rRepS : R2 := fun x y H Q => ∃ l k xs, x = .ref l ∧ y = .int k ∧ H l = some (.lst xs) ∧ -(2 ^ 63) ≤ k ∧ k < 2 ^ 63 ∧ xs.length * k.toNat ≤ sizeLine ∧
  ∀ p H', H p = none → Same H H' → H' p = some (.lst (List.replicate k.toNat xs).flatten) → Q (.ref p) H'
theorem op_repS : OpR X (binaryOp .Mult) rRepS := by
  intro pins s σ H x y v u Q I rx ry h
  obtain ⟨l, k, xs, h1, h2, h3, h4, h5, h6, h7⟩ := h
  exact op_rep pins s σ H x y v u Q I rx ry ⟨l, k, xs, h1, h2, h3, h4, h5, h6, fun p hp => h7 p _ hp (Same.new hp) upd_same⟩
end
theorem flat1 {α : Type} (x : α) : ∀ n : Nat, (List.replicate n [x]).flatten = List.replicate n x
  | 0 => rfl
  | n + 1 => by rw [List.replicate_succ, List.flatten_cons, flat1 x n, List.replicate_succ]; rfl
def tLstRgS (te : L2.St → Hp → (Int → Int → Hp → Prop) → Prop) : TE := fun σ H Q => te σ H fun a b H1 => RgOk a b ∧ ∀ q H', H1 q = none → Same H1 H' → H' q = some (.lst (rgV a b)) → Q (.ref q) H'
/-- is_integer's answer -/
def isIntV : V → Bool
  | .int _ => true
  | _ => false
/-- the attributes of a new object: what an __init__ leaves -/
theorem sz_of {n : Nat} (h : n ≤ 100000) : n ≤ sizeLine := Nat.le_trans h (by decide)
theorem sz_lt {n : Nat} (h : n < 100000) : n < sizeLine := Nat.lt_of_lt_of_le h (by decide)

theorem atI_some {α : Type} {rs : List α} {i : Int} (h1 : -(rs.length : Int) ≤ i) (h2 : i < rs.length) : ∃ v, v ∈ rs ∧ atI rs i = some v := by
  unfold atI ixN
  by_cases h0 : 0 ≤ i
  · rw [if_pos h0, if_pos h2]
    have hj : i.toNat < rs.length := by omega
    exact ⟨rs[i.toNat], List.getElem_mem hj, by show rs[i.toNat]? = _; exact List.getElem?_eq_getElem hj⟩
  · rw [if_neg h0, if_pos h1]
    have hj : ((rs.length : Int) + i).toNat < rs.length := by omega
    refine ⟨rs[((rs.length : Int) + i).toNat], List.getElem_mem hj, ?_⟩
    first
      | exact List.getElem?_eq_getElem hj
      | (show rs[(i + rs.length).toNat]? = _; rw [Int.add_comm]; exact List.getElem?_eq_getElem hj)
theorem cutV_tail (x : V) (xs : List V) : cutV (x :: xs) (some 1) none = xs := by
  unfold cutV
  have e : HT.sIx (x :: xs).length 0 (some 1) = 1 := by
    unfold HT.sIx
    simp
  have e2 : HT.sIx (x :: xs).length (x :: xs).length none = (x :: xs).length := rfl
  rw [e, e2, List.drop_one, List.tail_cons, List.length_cons, Nat.add_sub_cancel, List.take_length]
/-- a rule's own words: the promise of a def without defaults -/
abbrev rawS (sp : Sp) : Sp := fun vs H Q E => sp (vs ++ []) H Q E
end Lf

set_option Elab.async false
set_option linter.all false
set_option maxRecDepth 100000
set_option maxHeartbeats 4000000
/-! set of a tuple of ints, sorted of a set of ints of any number, sorted of a list of ints. -/
namespace Lf
open PySem PySem.Spec PyProof.Rows L2
section
variable {P : Program} {w : World} {A : Around} {E : Value → Shared → Prop} {s : Shared} {a : Addr}
theorem sorted_setA {S : Int → Bool} {n : Nat} {Q : Value → Shared → Prop} (R : SetR w s.heap a S n) (hh : A.handled = none)
    (hQ : ∀ s' p (out : Array Value) (c : Nat) (ns : List Int), (∀ b o, s.heap.get? b = some o → s'.heap.get? b = some o) → s'.gens = s.gens → s'.os = s.os → s.heap.objs.size ≤ p →
      s'.heap.get? p = some (seqObj "list" out c) → IntsAre out.toList ns → ns.Pairwise (· < ·) → (∀ k, k ∈ ns ↔ S k = true) → ns.length = n → Q (.ref p) s') :
    wpAny (model P w) A (call (.builtin "sorted") [.ref a]) Q E s := by
  obtain ⟨o, es, ep, t, ho, hex, hd, g, nd, hm, hb, hf, hn, hr, hl⟩ := R
  refine Calls.call_function_entry kind_sorted plain_sorted entry_sorted (args_sorted1 _) ?_
  unfold Builtin.«sorted»
  refine wpAny_bind (m := checkCount "sorted" 1 1 _) (wpAny_pure ?_)
  refine wpAny_bind (collect_set (A := A.in1) hh ⟨o, ho, hex.1, hd⟩ hf hb hr hl fun s1 vs k1 hz g1 o1 pm => ?_)
  have hvl : vs.length = n := by rw [pm.length_eq, List.length_map, Array.length_toList]; exact hn
  have hI : IntsAre vs (vs.map Builtin.Re.reRawOf) := ints_of vs fun v hv => by
    obtain ⟨e, he, q⟩ := List.mem_map.mp (pm.mem_iff.mp hv)
    obtain ⟨k, tk, h1, _⟩ := g e he
    exact ⟨k, tk, by rw [← q]; exact h1⟩
  have pk : (vs.map Builtin.Re.reRawOf).Perm (es.toList.map keyOf) := by
    have q := pm.map Builtin.Re.reRawOf
    rw [List.map_map] at q
    exact q
  have hbn : n < 4096 := by rw [← hn]; exact hb
  refine wpAny_bind (wpAny_newList ?_ (by rw [hvl, sizeLine_eq]; omega))
  have hoL : (s1.heap.push (seqObj "list" vs.toArray 0)).get? s1.heap.objs.size = some (seqObj "list" vs.toArray 0) := Heap.get?_push_size _ rfl
  refine wpAny_bind (wpAny_holding (wpAny_call_entry slot_list_sort ⟨_, hoL, rfl⟩ entry_list_sort
    (SrtO.list_sort_ord SrtO.swo_int hoL (by rw [hvl, sizeLine_eq]; omega) (fun h2 => SrtO.ints_sortable hI h2) fun out b1 b2 => ⟨_, rfl, ?_⟩) (args_list_sort _)))
  obtain ⟨a1, a2, a3⟩ := SrtO.ints_out hI b1 b2
  obtain ⟨c, hc⟩ := sortedHeap_at (vs := vs) (out := out.toArray) hoL
  have pn : (out.map SrtO.iv).Perm (es.toList.map keyOf) := a2.trans pk
  refine wpAny_pure ⟨_, rfl, hQ _ s1.heap.objs.size out.toArray c (out.map SrtO.iv) (fun b u e => ?_) g1 o1 hz hc (by simpa using a1) (lt_of_le_nodup _ a3 (pn.nodup_iff.mpr nd)) (fun k => by rw [pn.mem_iff, ← hm k]) ?_⟩
  · have q := k1 b u e
    have hlt := Heap.lt_size q
    show (sortedHeap (s1.heap.push (seqObj "list" vs.toArray 0)) s1.heap.objs.size vs out.toArray).get? b = some u
    rw [sortedHeap_old (Nat.ne_of_lt hlt) (by rw [size_push']; exact Nat.lt_succ_of_lt hlt)]
    exact Heap.get?_push_of_some _ q
  · rw [pn.length_eq, List.length_map, Array.length_toList]; exact hn
end
section
variable {X : Cx}
/-- sorted(set) -/
def rSortedSetA (w : World) : List V → Hp → VK → Prop := fun vs H Q => ∃ (a : Addr) (S : Int → Bool) (n : Nat), vs = [V.ref a] ∧ H a = some (SetO w a S n) ∧
  ∀ (ns : List Int) (p : Addr) (H' : Hp), ns.Pairwise (· < ·) → (∀ k : Int, k ∈ ns ↔ S k = true) → ns.length = n → H p = none → Same H H' → H' p = some (.lst (ns.map V.int)) → Q (.ref p) H'
theorem cr_sortedSetA (hc : X.calm = true) : CallR X (.builtin "sorted") (rSortedSetA X.w) := by
  intro pins s σ H vs us Q I r h
  obtain ⟨a, S, n, rfl, ha, q⟩ := h
  have R := setO_get I ha
  have hbn : n < 4096 := by
    obtain ⟨o, es, ep, t, ho, hex, hd, g, nd, hm, hb, hf, hn, hr, hl⟩ := R
    rw [← hn]; exact hb
  rw [Vals.ref1 r]
  refine sorted_setA R (I.ok.hd hc) fun s' p out c ns k g o hp hg hi hs hm hl => ?_
  have hlen : (ns.map V.int).length ≤ sizeLine := by rw [List.length_map, hl, sizeLine_eq]; omega
  have hn : H p = none := I.hok.fresh hp
  have J : L2.Inv X pins σ (upd H p (.lst (ns.map V.int))) { s with heap := s'.heap, gens := s'.gens, drawn := s'.drawn, toks := s'.toks } :=
    I.call (ch := []) (Un.laid k hp hn) (I.hok.laid k hp ⟨hlen, out.toList, c, vals_of_ints hi, hg⟩) (by rw [g]; exact I.bare) (fun _ z => nomatch z)
  have e : s' = { s with heap := s'.heap, gens := s'.gens, drawn := s'.drawn, toks := s'.toks } := by
    cases s'
    cases s
    cases o
    rfl
  rw [e]
  exact ⟨.ref p, _, J, rfl, q ns p _ hs hm hl hn (Same.new hn) upd_same⟩
/-- set(tuple of ints) -/
def rSetTI (K : PySem.W.Frag) (w : World) : List V → Hp → VK → Prop := fun xs H Q => ∃ (p : Addr) (ns : List Int), xs = [V.ref p] ∧ SqT K H p (ns.map V.int) ∧ ns.length ≤ 4000 ∧
  ∀ (q : Addr) (c : Nat) (H' : Hp), H q = none → Same H H' → H' q = some (SetO w q (fun j => decide (j ∈ ns)) c) → c ≤ ns.length → Q (.ref q) H'
theorem cr_setTI (hc : X.calm = true) : CallR X (.type "set") (rSetTI X.K X.w) := by
  intro pins s σ H xs us Q I r h
  obtain ⟨p, ns, rfl, hp, hl, q⟩ := h
  rw [Vals.ref1 r]
  obtain ⟨its, rv, ht, hz⟩ := I.tuple hp
  have hi : IntsAre its.toArray.toList ns := ints_of_vals rv
  refine call_set_tupI ns (I.ok.hd hc) (show s.heap.IsTuple p its.toArray from ht) hi (by unfold scanBound; omega) fun h' tk c R1 hcn k => ?_
  have hn : H s.heap.objs.size = none := I.hok.fresh (Nat.le_refl _)
  refine ⟨.ref s.heap.objs.size, _, I.laid (t' := tk) k (Nat.le_refl _) (setO_new R1), rfl, q _ c _ hn (Same.new hn) upd_same hcn⟩
end
/-! set(list of ints): few different ones -/
theorem sub_len : ∀ (ks ns : List Int), ks.Nodup → (∀ k ∈ ks, k ∈ ns) → ks.length ≤ ns.length
  | [], _, _, _ => Nat.zero_le _
  | k :: ks, ns, nd, h => by
    obtain ⟨h1, h2⟩ := List.nodup_cons.mp nd
    have m := h k (List.mem_cons_self ..)
    have l := sub_len ks (ns.erase k) h2 fun x hx => (List.mem_erase_of_ne (fun (e : x = k) => h1 (by rw [← e]; exact hx))).mpr (h x (List.mem_cons_of_mem _ hx))
    rw [List.length_erase_of_mem m] at l
    have := List.length_pos_of_mem m
    rw [List.length_cons]
    omega
def FewI (ns : List Int) : Prop := ∀ ks : List Int, ks.Nodup → (∀ k ∈ ks, k ∈ ns) → ks.length + 1 < scanBound
theorem FewI.of_len {ns : List Int} (h : ns.length ≤ 4000) : FewI ns := fun ks nd hk => by
  have := sub_len ks ns nd hk
  unfold scanBound
  omega
theorem FewI.of_lt {ns : List Int} (h : ∀ k ∈ ns, 0 ≤ k ∧ k < 4000) : FewI ns := fun ks nd hk => by
  have := sub_len ks ((List.range 4000).map fun (i : Nat) => (i : Int)) nd fun k hx => by
    obtain ⟨a, b⟩ := h k (hk k hx)
    exact List.mem_map.mpr ⟨k.toNat, List.mem_range.mpr (by omega), by omega⟩
  rw [List.length_map, List.length_range] at this
  unfold scanBound
  omega
theorem SetR.few {w : World} {h : Heap} {a : Addr} {S : Int → Bool} {n : Nat} {ns : List Int} (R : SetR w h a S n) (hS : ∀ k, S k = true → k ∈ ns) (f : FewI ns) : n + 1 < scanBound := by
  obtain ⟨o, es, ep, t, ho, hex, hd, g, nd, hm, hb, hf, hn, hr, hl⟩ := R
  have := f _ nd fun k hk => hS k ((hm k).mpr hk)
  rw [List.length_map, Array.length_toList, hn] at this
  exact this
section
variable {P : Program} {w : World} {A : Around} {E : Value → Shared → Prop} {s : Shared}
theorem set_fill {I : Addr} {fp wr : List Addr} {G : Array GenState → Array GenState → Prop} {n : Nat} {Pv : Nat → Value → Prop} {St : Nat → Shared → Prop} {R : Result → Shared → Prop}
    (W : WalksS P w A.in1 I fp wr G n Pv St) (S : Addr) (hSf : S ∉ fp) (ns : List Int) (hn : n = ns.length) (few : FewI ns) (hval : ∀ i v, Pv i v → ∃ k t, ns[i]? = some k ∧ v = .int k t) :
    ∀ (k i : Nat) (s : Shared), n - i = k → i ≤ n → St i s → (∃ c, c ≤ i ∧ SetR w s.heap S (fun j => decide (j ∈ ns.take i)) c) →
      (∀ s' c, Moved (S :: wr) G s s' → c ≤ n → SetR w s'.heap S (fun j => decide (j ∈ ns)) c → R (.ok (.ret .none)) s') →
      codeAny (model P w) A (.builtin "set.update.loop" ⟨[.ref S, .ref I], []⟩) R s := by
  have hSw : S ∉ wr := fun h => hSf (W.sub _ h)
  have up : ∀ b ∈ wr, b ∈ S :: wr := fun b hb => List.mem_cons_of_mem _ hb
  intro k
  induction k with
  | zero =>
    intro i s hk' hi hst ⟨c, hc, hS⟩ hR
    obtain rfl : i = n := by omega
    refine codeAny_builtin F.entry_set_update_loop ?_; rw [Around.under_plainId F.plain_set_update_loop _]
    refine wpAny_bind (m := pyNext (.ref I)) (W.done s _ _ hst fun s' hm => wpAny_pure (hR s' c (hm.mono up) hc ?_))
    have e : ns.take i = ns := List.take_of_length_le (by omega)
    rw [e] at hS
    exact hS.at fun o z => hm.heap S o hSw z
  | succ k ih =>
    intro i s hk' hi hst ⟨c, hc, hS⟩ hR
    have hlt : i < n := by omega
    refine codeAny_builtin F.entry_set_update_loop ?_; rw [Around.under_plainId F.plain_set_update_loop _]
    refine wpAny_bind (m := pyNext (.ref I)) (W.item i s _ _ hlt hst fun v s' hP hst' hm => ?_)
    obtain ⟨z, t, hz, rfl⟩ := hval i v hP
    have hS1 : SetR w s'.heap S (fun j => decide (j ∈ ns.take i)) c := hS.at fun o e => hm.heap S o hSw e
    refine wpAny_bind (m := holding [Value.int z t] (setAdd S (.int z t))) (wpAny_holding ?_); unfold setAdd; refine wpAny_holding ?_
    refine wpAny_bind ((intKind P w).pyHash (k := z) (intKind_is _ _ _ _) (setR_add_hashed (s := { s' with toks := s'.toks + 1 }) hS1 ?_ fun h' hsb hS2 => ?_))
    · exact SetR.few hS1 (fun k hk => List.mem_of_mem_take (of_decide_eq_true hk)) few
    have hS3 : SetR w h' S (fun j => decide (j ∈ ns.take (i + 1))) (if decide (z ∈ ns.take i) = true then c else c + 1) := hS2.congr fun j => by
      rw [List.take_add_one, hz] <;> simp [List.mem_append]
    refine wpAny_pure ⟨plainId_quiet F.plain_set_update_loop _, ih (i + 1) _ (by omega) hlt (W.frame _ s' _ _ hst' (Nat.le_succ _) fun b hb o e => ?_) ⟨_, by split <;> omega, hS3⟩ fun s2 c2 hm2 hc2 hS4 => ?_⟩
    · rw [hsb.2 b (fun q : b = S => hSf (q ▸ hb))]; exact e
    · refine hR s2 c2 (Moved.trans W.gtrans ((hm.mono up).then_heap (Nat.le_succ _) fun b o hb e => ?_) hm2) hc2 hS4
      rw [hsb.2 b (fun q : b = S => hb (q ▸ List.mem_cons_self))]; exact e
/-- a new set, empty -/
def set0 (w : World) : Obj := { cls := .type "set", dict := none, data := .set #[] 0 (.fresh 0 0 (!w.params.followText "set-order")) }
theorem call_setL {l : Addr} {items : Array Value} (ns : List Int) {Q : Value → Shared → Prop} (hh : A.handled = none) (hl : s.heap.IsList l items) (hit : IntsAre items.toList ns) (few : FewI ns)
    (h : ∀ (h' : Heap) (tk c : Nat), SetR w h' s.heap.objs.size (fun j => decide (j ∈ ns)) c → c ≤ ns.length → (∀ b o, s.heap.get? b = some o → h'.get? b = some o) → Q (.ref s.heap.objs.size) { s with heap := h', toks := tk }) :
    wpAny (model P w) A (call (.type "set") [.ref l]) Q E s := by
  have isz : items.size = ns.length := Array.length_toList ▸ IntsAre.length hit
  obtain ⟨c, tl, hmro⟩ := F.called_set.mro
  have hmade := F.called_set.made; have hsub := F.called_set.sub
  refine wpAny_call (codeAny_of_tree (show wpAny _ _ (callAny (.type "set") _) _ _ _ from ?_))
  refine wpAny_pure ⟨Code.quiet_builtin _ (by decide +kernel), codeAny_builtin F.entry_type_call ?_⟩; rw [Around.under_plain (weight_type_call_type "set" [.ref l] []) rfl]
  have h1 := F.called_set.notType; have h2 := F.called_set.canCreate; have hct := F.typeCall_set_1 (.ref l)
  (repeat (any_goals (first | assumption | wp_step)))
  refine codeAny_mono (code_set_led1 (.ref l) (E := E) (Q₁ := fun obj s₁ => obj = .ref s.heap.objs.size ∧ s₁ = { s with heap := s.heap.push (set0 w) }) ⟨rfl, rfl⟩) fun r s₁ hr => ?_
  cases r with
  | error e => exact hr
  | ok fl =>
    cases fl with
    | next => exact hr
    | brk => exact hr
    | cont => exact hr
    | ret obj =>
      obtain ⟨rfl, rfl⟩ := hr
      have hS : (s.heap.push (set0 w)).get? s.heap.objs.size = some (set0 w) := Heap.get?_push_size _ rfl
      have hT : Shared.TypeIs { s with heap := s.heap.push (set0 w) } (.ref s.heap.objs.size) "set" := ⟨_, hS, rfl⟩
      have hli := F.called_set.init.lookup; have hbi := F.called_set.init.bind (.ref s.heap.objs.size)
      (repeat (any_goals (first | assumption | wp_step)))
      refine codeAny_mono (codeAny_call_builtin (R := wants (fun r s₂ => r = .none ∧ ∃ h' tk c, s₂ = { s with heap := h', toks := tk } ∧ SetR w h' s.heap.objs.size (fun j => decide (j ∈ ns)) c ∧ c ≤ ns.length ∧
          (∀ b o, s.heap.get? b = some o → h'.get? b = some o)) E) F.called_set.init.plain F.entry_set_init (check_set_init_1 hT ?_)) fun r₂ s₂ hr₂ => ?_
      · obtain ⟨ol, hol, hcl, nl, hdl⟩ := hl
        obtain ⟨ocls, odict, odata, oslots⟩ := ol
        simp only at hcl hdl
        subst hcl; subst hdl
        have hol' : (s.heap.push (set0 w)).get? l = some { cls := .type "list", dict := odict, data := .seq items nl, slots := oslots } := Heap.get?_push_of_some _ hol
        have hsls := F.sub_list_set; have hslf := F.sub_list_frozenset
        have hne : (Value.type "list" == Value.type "dict") = false := by decide
        have hl1 : (s.heap.push (set0 w)).IsList l items := ⟨_, hol', rfl, nl, rfl⟩
        unfold Builtin.«set.__init__» noKeywords Builtin.Frozenset.updateFrom; generalize hPI : pyIter = PI
        wp_walk
        subst hPI
        refine wpAny_pyIter_list hl1 (wpAny_bind (wpAny_runValue ?_))
        have hlS : l < s.heap.objs.size := Heap.lt_size hol
        have h3 : A.in1.in1.in1.handled = none := by simp [hh]
        have hneI : l ≠ (s.heap.push (set0 w)).objs.size := fun e => Nat.ne_of_lt (Nat.lt_succ_of_lt hlS) (e.trans (Heap.size_push _ _))
        have hSf : s.heap.objs.size ∉ [(s.heap.push (set0 w)).objs.size, l] := by
          rw [Heap.size_push, List.mem_cons, List.mem_singleton]
          exact fun e => e.elim (fun e => Nat.ne_of_lt (Nat.lt_succ_self _) e) fun e => Nat.ne_of_gt hlS e
        have hval : ∀ (i : Nat) (v : Value), items[i]? = some v → ∃ k t, ns[i]? = some k ∧ v = .int k t := fun i v hv => by
          have hi : i < ns.length := isz ▸ (Array.getElem?_eq_some_iff.mp hv).1
          obtain ⟨t, e⟩ := PyProof.Rows.IntsAre.int_at hit i v (by rw [Array.getElem?_toList, hv])
          refine ⟨ns[i], t, List.getElem?_eq_getElem hi, ?_⟩
          rw [e, List.getD_eq_getElem?_getD, List.getElem?_eq_getElem hi, Option.getD_some]
        refine set_fill ((Walks.list h3 _ l hneI items).toS) s.heap.objs.size hSf ns isz few hval (items.size - 0) 0 _ (by omega) (Nat.zero_le _) ⟨⟨_, Heap.get?_push_size _ rfl, rfl, rfl⟩, (hl1.push _)⟩ ?z1 ?z2
        case z1 => exact ⟨0, Nat.le_refl 0, setR_new_at (Heap.get?_push_of_some _ hS)⟩
        case z2 =>
          intro s' c' hm hc' hS'
          obtain ⟨h', g2, d', tk', os'⟩ := s'
          have eg : g2 = s.gens := hm.gens; have ed : d' = s.drawn := hm.drawn; have eo : os' = s.os := hm.os
          subst eg; subst ed; subst eo
          rw [isz] at hc'
          refine wpAny_pure (show wpAny _ _ (ret Value.none) _ _ _ from wpAny_pure ⟨rfl, h', tk', c', rfl, hS', hc', fun b o e => ?_⟩)
          have hb0 : b < s.heap.objs.size := Heap.lt_size e
          refine hm.heap b o ?_ (Heap.get?_push_of_some _ (Heap.get?_push_of_some _ e))
          rw [Heap.size_push, List.mem_cons, List.mem_singleton]
          exact fun e => e.elim (fun e => Nat.ne_of_lt hb0 e) fun e => Nat.ne_of_lt (Nat.lt_succ_of_lt hb0) e
      · cases r₂ with
        | error e => exact hr₂
        | ok fl₂ =>
          cases fl₂ with
          | next => exact hr₂.elim
          | brk => exact hr₂.elim
          | cont => exact hr₂.elim
          | ret r =>
            obtain ⟨rfl, h', tk, c', rfl, hS', hc', hk'⟩ := hr₂
            (repeat (any_goals (first | assumption | wp_step)))
            exact h h' tk c' hS' hc' hk'
end
section
variable {X : Cx}
def rSetLI (K : PySem.W.Frag) (w : World) : List V → Hp → VK → Prop := fun xs H Q => ∃ (p : Addr) (ns : List Int), xs = [V.ref p] ∧ SqL K H p (ns.map V.int) ∧ FewI ns ∧
  ∀ (q : Addr) (c : Nat) (H' : Hp), H q = none → Same H H' → H' q = some (SetO w q (fun j => decide (j ∈ ns)) c) → c ≤ ns.length → Q (.ref q) H'
theorem cr_setLI (hc : X.calm = true) : CallR X (.type "set") (rSetLI X.K X.w) := by
  intro pins s σ H xs us Q I r h
  obtain ⟨p, ns, rfl, hp, hl, q⟩ := h
  rw [Vals.ref1 r]
  obtain ⟨its, rv, ht, hz⟩ := I.list hp
  have hi : IntsAre its.toArray.toList ns := ints_of_vals rv
  refine call_setL ns (I.ok.hd hc) ht.isList hi hl fun h' tk c R1 hcn k => ?_
  have hn : H s.heap.objs.size = none := I.hok.fresh (Nat.le_refl _)
  refine ⟨.ref s.heap.objs.size, _, I.laid (t' := tk) k (Nat.le_refl _) (setO_new R1), rfl, q _ c _ hn (Same.new hn) upd_same hcn⟩
end
section
variable {X : Cx}
/-- sorted(list of ints) -/
def rSortedIS (K : PySem.W.Frag) : List V → Hp → VK → Prop := fun vs H Q => ∃ (a : Addr) (ns : List Int), vs = [V.ref a] ∧ SqL K H a (ns.map V.int) ∧
  ∀ (ns' : List Int) (p : Addr) (H' : Hp), ns'.Perm ns → ns'.Pairwise (· ≤ ·) → H p = none → Same H H' → H' p = some (.lst (ns'.map V.int)) → Q (.ref p) H'
theorem cr_sortedIS : CallR X (.builtin "sorted") (rSortedIS X.K) := by
  intro pins s σ H vs us Q I r h
  obtain ⟨a, ns, h1, h2, h3⟩ := h
  exact cr_sortedI pins s σ H vs us Q I r ⟨a, ns, h1, h2, fun ns' p b1 b2 b3 => h3 ns' p _ b1 b2 b3 (Same.new b3) upd_same⟩
end
/-! ### lists that rise: one for each set -/
theorem rise_eq : ∀ {xs ys : List Int}, xs.Pairwise (· < ·) → ys.Pairwise (· < ·) → (∀ k, k ∈ xs ↔ k ∈ ys) → xs = ys
  | [], [], _, _, _ => rfl
  | [], y :: ys, _, _, h => absurd ((h y).mpr (List.mem_cons_self ..)) (by simp)
  | x :: xs, [], _, _, h => absurd ((h x).mp (List.mem_cons_self ..)) (by simp)
  | x :: xs, y :: ys, h1, h2, h => by
    obtain ⟨a1, a2⟩ := List.pairwise_cons.mp h1
    obtain ⟨b1, b2⟩ := List.pairwise_cons.mp h2
    have exy : x = y := by
      rcases List.mem_cons.mp ((h x).mp (List.mem_cons_self ..)) with e | e
      · exact e
      · rcases List.mem_cons.mp ((h y).mpr (List.mem_cons_self ..)) with e' | e'
        · exact e'.symm
        · have := b1 x e
          have := a1 y e'
          omega
    subst exy
    have ht : ∀ k, k ∈ xs ↔ k ∈ ys := fun k => by
      constructor
      · intro hk
        rcases List.mem_cons.mp ((h k).mp (List.mem_cons_of_mem _ hk)) with e | e
        · have := a1 k hk
          omega
        · exact e
      · intro hk
        rcases List.mem_cons.mp ((h k).mpr (List.mem_cons_of_mem _ hk)) with e | e
        · have := b1 k hk
          omega
        · exact e
    rw [rise_eq a2 b2 ht]
end Lf

set_option Elab.async false
set_option linter.all false
set_option maxRecDepth 100000
set_option maxHeartbeats 4000000
/-! Rules of our own: a def with *values and one keyword-only default; classes called with a star and a keyword; own operators. -/
namespace Lf
open PySem PySem.Spec PyProof.Rows L2 StX

/-! ### f(*e, k = v) -/
section
variable {M : Model} {A : Around} {E : Value → Shared → Prop} {s : Shared}
theorem ks_loneKw {f : Value} {x : Sem Value} {pos : Pos} {kws : List (Option Str × Sem Value)} {Q : Args → Shared → Prop} (hall : kws.all (·.1.isSome) = true)
    (h : wpAny M A x (fun v s₁ => wpAny M A (evalAll (kws.map (·.2))) (fun ks s₂ => PySem.W.StarOf M A E v (fun vs s₃ => Q ⟨vs, (kws.filterMap (·.1)).zip ks⟩ s₃) s₂) E s₁) E s) :
    wpAny M A (evalArgs f true [(true, (do let v ← x; standAt pos; pure v))] kws) Q E s := by
  unfold evalArgs
  refine wpAny_bind (wpAny_bind (wpAny_mono h (fun v s₁ h₁ => wpAny_bind (wpAny_standAt (wpAny_pure ?_))) fun _ _ x => x))
  refine wpAny_holding ?_
  simp only [hall, if_true]
  refine wpAny_bind (wpAny_mono h₁ (fun ks s₂ h₂ => ?_) fun _ _ x => x)
  unfold PySem.W.StarOf at h₂
  refine wpAny_bind (wpAny_bind (wpAny_mono h₂ (fun b s₃ h₃ => ?_) fun _ _ x => x))
  obtain ⟨rfl, h₃⟩ := h₃
  simp only [Bool.false_eq_true, if_false]
  exact wpAny_holding (wpAny_mono h₃ (fun vs s₄ h₄ => (wpAny_pure h₄ : wpAny M A (pure (⟨vs, (kws.filterMap (·.1)).zip ks⟩ : Args)) Q E s₄)) fun _ _ x => x)
theorem ks_callKw {f : Value} {first : List Value} {pos : Pos} {Q : Value → Shared → Prop} {P : Heap → Prop} {args : List (Bool × Sem Value)} {kws : List (Option Str × Sem Value)} (hst : args.any (·.1) = true)
    (hk : ∀ h, P h → ∃ k, (k = Keeper.frame ∨ k = Keeper.machine ∨ k = Keeper.boundFrame) ∧ PySem.W.Looks M h (keeperOf f) k)
    (h : wpAny M A (evalArgs f true args kws) (fun a s₁ => P s₁.heap ∧ wpAny M A (call f (first ++ a.pos) a.kw) Q E s₁) E s) : wpAny M A (callWith pos f first args kws) Q E s := by
  unfold callWith
  refine wpAny_bind (wpAny_holding (wpAny_mono h (fun a s₁ h₁ => wpAny_bind (wpAny_standAt ?_)) fun _ _ x => x))
  obtain ⟨k, hk', L⟩ := hk _ h₁.1
  simp only [hst, Bool.true_or]
  refine wpAny_bind (L.here ?_)
  have tail : ∀ {t : Sem Value}, wpAny M A t Q E s₁ → wpAny M A (t >>= fun r => holding [r] point >>= fun _ => pure r) Q E s₁ :=
    fun ht => wpAny_bind (wpAny_mono ht (fun r s₂ hr => wpAny_bind (wpAny_holding (wpAny_point (wpAny_pure hr)))) fun _ _ x => x)
  have marked (mk : Value) : wpAny M A (callMarked mk f (first ++ a.pos) a.kw) Q E s₁ := by unfold callMarked; exact Calls.wpAny_keep h₁.2
  rcases hk' with rfl | rfl | rfl <;> dsimp only <;> first | exact tail (marked _) | exact tail (wpAny_operating h₁.2)
end

/-! ### a def with a star parameter and a keyword-only one -/
def BV1 (x qual : Str) (params : Arguments) (body : List Stmt) (scope : Scope) (p1 kn pv : Str) : Prop :=
  (∀ (D : Addr) (doc pm : Value) (an : Option Addr) (cdv ct u kv : Value) (rest : List Value), ∃ (β γ : Type) (k1 : Option Value → Sem β) (k2 : β → Sem γ) (k3 : γ → Sem (List (Str × Value))) (a : β),
    bindArgs (PySem.W.fnOf x qual params body scope .none (.ref D) doc pm an cdv ct) ⟨u :: rest, []⟩ = ((nsGet D kn >>= k1) >>= k2) >>= k3 ∧ k1 (some kv) = pure a ∧ (k2 a >>= k3) = (newTuple rest >>= fun t => pure [(p1, u), (kn, kv), (pv, t)])) ∧
  ∀ (D : Addr) (doc pm : Value) (an : Option Addr) (cdv ct u b : Value) (rest : List Value),
    bindArgs (PySem.W.fnOf x qual params body scope .none (.ref D) doc pm an cdv ct) ⟨u :: rest, [(kn, b)]⟩ = (newTuple rest >>= fun t => pure [(p1, u), (kn, b), (pv, t)])
/-- a promise of a call with one keyword -/
def FnRK (P : Program) (w : World) (K : PySem.W.Frag) (mg : Str → Option Value) (base : Heap) (CX : CXT) (k : Nat) (f : Addr) (kn : Str) (sp : V → Sp) : Prop :=
  ∀ (A : Around) (outer : List Env) (s : Shared) (H : Hp) (us : List Value) (vs : List V) (z : V) (u : Value) (Q : VK) (E : XK), Room k A → Env0 P w K mg base A outer s H → Vals vs us → RelV z u → sp z vs H Q E →
    codeAny (model P w) A (.call (.ref f) ⟨us, [(kn, u)]⟩) (CR CX outer P w H s Q E) s
/-- the promise of such a def from that of its body: the first value, the keyword's, the tuple of the others -/
def stS (sp : Sp) (z : V) : Sp := fun vs H Q E => ∃ v rest, vs = v :: rest ∧ rest.length ≤ sizeLine ∧ ∀ p H', H p = none → Same H H' → H' p = some (.tup rest) → sp [v, z, .ref p] H' Q E
section
variable {CX : CXT} {P : Program} {w : World} {K : PySem.W.Frag} {mg : Str → Option Value} {base : Heap} {k : Nat} {f : Addr} {x qual p1 kn pv : Str} {params : Arguments} {body : List Stmt} {scope : Scope} {fd : FuncData} {N : List Str} {sp : Sp} {dk : V}
theorem newTup_run {A A' : Around} {outer : List Env} {s : Shared} {H : Hp} {E : XK} {G : List V → Hp → Prop} {Ex : Value → Shared → Prop} {Q : List (Str × Value) → Shared → Prop} {v z : V} {u kv : Value} {u2 : List Value} {rest : List V} (hCX : CXUp CX) (e0 : Env0 P w K mg base A outer s H)
    (h : ∀ (s2 : Shared) (H2 : Hp) (vs : List V) (us : List Value), Env0 P w K mg base A outer s2 H2 → Un (frs outer) [] H H2 s.heap s2.heap → s2.os = s.os → (∀ e s', CX outer H2 s2 E e s' → CX outer H s E e s') → Vals vs us → vs.length = [p1, kn, pv].length → G vs H2 → Q ([p1, kn, pv].zip us) s2)
    (ru : RelV v u) (rk : RelV z kv) (r2 : Vals rest u2) (hz : rest.length ≤ sizeLine) (hG : ∀ p, H p = none → G [v, z, .ref p] (upd H p (.tup rest))) :
    wpAny (model P w) A' (newTuple u2 >>= fun t => pure [(p1, u), (kn, kv), (pv, t)]) Q Ex s := by
  have hn : H s.heap.objs.size = Option.none := e0.hok.fresh (Nat.le_refl _)
  have hl2 : u2.length ≤ sizeLine := by rw [← r2.length]; exact hz
  refine wpAny_bind (wpAny_newTuple (wpAny_pure ?_) hl2)
  have new : ObjOk P w (upd H s.heap.objs.size (.tup rest)) (s.heap.push ({ cls := .type "tuple", data := .seq u2.toArray } : Obj)) s.heap.objs.size (.tup rest) := ⟨hz, u2, r2, ⟨_, Heap.get?_push_size _ rfl, rfl, _, rfl⟩⟩
  have un := un_laid (fs := frs outer) (s := s) (o := ({ cls := .type "tuple", data := .seq u2.toArray } : Obj)) (u := .tup rest) hn
  exact h _ _ [v, z, V.ref s.heap.objs.size] [u, kv, Value.ref s.heap.objs.size] (env0_laid e0 new) un rfl (fun e s' => hCX outer s H _ _ E e s' un (fun b o q => Heap.get?_push_of_some _ q) rfl) (.cons ru (.cons rk (.cons rfl .nil))) rfl (hG _ hn)
theorem fn_starK (F : FunD K x qual params body scope [] [(kn, dk)] f fd) (B : BV1 x qual params body scope p1 kn pv) (S : FnScope N [p1, kn, pv] scope) (hCX : CXUp CX)
    (hbody : ∀ (cdv : Value) (A : Around) (outer : List Env) (s : Shared) (H : Hp) (vs : List V) (Q : VK) (E : XK), Room k (A.deeper (envOfC qual scope s.heap.objs.size f cdv)) → sp vs H Q E →
      ∃ t, PSs (cxOf CX P w K mg base N qual scope f cdv A outer s H E) body t ∧ t { nx := fun _ H' => Q .non H', rt := Q } (start N vs) H) :
    FnR P w K mg base CX (k + 1) f (stS sp dk) ∧ FnRK P w K mg base CX (k + 1) f kn (stS sp) := by
  obtain ⟨oc, od, dV, kV, doc, pm, an, cdv, ct, osl, rfl, lk, hcd, hD, hK⟩ := F.ex
  obtain rfl : dV = .none := by
    rcases hD with ⟨_, e⟩ | ⟨e, _⟩
    · exact e
    · exact absurd rfl e
  obtain ⟨D, rfl, hq⟩ : ∃ D : Addr, kV = .ref D ∧ ∀ q ∈ [(kn, dk)], ∃ u, PySem.W.nsIn K D q.1 = some (some u) ∧ RelV q.2 u := by
    rcases hK with e | e
    · exact absurd e (by simp)
    · exact e
  obtain ⟨kv, hkv, rkv⟩ := hq (kn, dk) (List.mem_cons_self ..)
  constructor
  · intro A outer s H us vs Q E hr e0 r hsp
    obtain ⟨v, rest, rfl, hz, hq⟩ := hsp
    cases r with
    | cons ru r2 =>
      rename_i u u2
      refine run_bnd lk hcd S hr e0 (G := fun xs H2 => sp xs H2 Q E) (fun A' Ex Q' h => ?_) fun s2 H2 xs hs hr' => hbody cdv A outer s2 H2 xs Q E hr' hs
      obtain ⟨β, γ, k1, k2, k3, a, e1, e2, e3⟩ := B.1 D doc pm an cdv ct u kv u2
      have KX : K.In s.heap := e0.mod.kin.keeps fun b o e => (e0.bs b o e).1
      rw [e1, bind_assoc]
      have goal : wpAny (model P w) A' (k2 a >>= k3) Q' Ex s := by
        rw [e3]
        exact newTup_run (p1 := p1) (kn := kn) (pv := pv) hCX e0 h ru rkv r2 hz fun p hp => hq p _ hp (Same.new hp) upd_same
      refine wpAny_bind (wpAny_bind ((PySem.W.looks_nsIn KX hkv).here ?_))
      rw [e2]
      exact wpAny_pure goal
  · intro A outer s H us vs z zu Q E hr e0 r rz hsp
    obtain ⟨v, rest, rfl, hz, hq⟩ := hsp
    cases r with
    | cons ru r2 =>
      rename_i u u2
      refine run_bnd lk hcd S hr e0 (G := fun xs H2 => sp xs H2 Q E) (fun A' Ex Q' h => ?_) fun s2 H2 xs hs hr' => hbody cdv A outer s2 H2 xs Q E hr' hs
      rw [B.2 D doc pm an cdv ct u zu u2]
      exact newTup_run (p1 := p1) (kn := kn) (pv := pv) hCX e0 h ru rz r2 hz fun p hp => hq p _ hp (Same.new hp) upd_same
end

/-! ### a class called: CallR of it; with a star; with a star and keywords; from a slot -/
section
variable {X : Cx} {CX : CXT} {k i : Nat} {f C : Addr} {sp : Sp} {spk : V → Sp} {E : XK} {x kn : Str} {e fe : Expr} {es : List Expr} {te tf : TE} {t tk : TA} {p pos sp_ : Pos} {kws : List Keyword} {ks : List Str} {r : List V → Hp → VK → Prop} {rk : List V → List V → Hp → VK → Prop}
theorem mk_call (M : Mk X.K C f) (F : FnR X.prog X.w X.K X.mg X.base CX k f sp) (hr : Room (k + 1) X.A) (hx : Passes CX X E) :
    CallR X (.ref C) (fun vs H Q => ∀ x dx, H x = none → H dx = none → dx ≠ x → sp (V.ref x :: vs) (upd (upd H dx (.own x)) x (.ins C dx [])) (fun v H2 => v = .non ∧ Q (.ref x) H2) E) :=
  fun pins s σ H vs us Q I r h => run_makeR M F hr hx I r h
theorem mk_callK (M : Mk X.K C f) (F : FnRK X.prog X.w X.K X.mg X.base CX k f kn spk) (hr : Room (k + 1) X.A) (hx : Passes CX X E) :
    CallRK X (.ref C) [kn] (fun vs zs H Q => ∃ z, zs = [z] ∧ ∀ x dx, H x = none → H dx = none → dx ≠ x → spk z (V.ref x :: vs) (upd (upd H dx (.own x)) x (.ins C dx [])) (fun v H2 => v = .non ∧ Q (.ref x) H2) E) := by
  intro pins s σ H vs zs us ws Q I r rz h
  obtain ⟨z, rfl, h⟩ := h
  obtain ⟨u, rfl, ru⟩ : ∃ u, ws = [u] ∧ RelV z u := by
    cases rz with
    | cons a b => cases b; exact ⟨_, rfl, a⟩
  have hq := h (s.heap.objs.size + 1) s.heap.objs.size (I.hok.fresh (Nat.le_succ _)) (I.hok.fresh (Nat.le_refl _)) (Nat.ne_of_lt (Nat.lt_succ_self _))
  have I2 := Inv.made (C := C) I
  have r2 : Vals (V.ref (s.heap.objs.size + 1) :: vs) (Value.ref (s.heap.objs.size + 1) :: us) := .cons rfl r
  refine wpAny_call (make_map (f := f) I.kIn M.makes M.init (beq_iff_eq.mp M.fn) (codeAny_mono (F _ X.stack _ _ (Value.ref (s.heap.objs.size + 1) :: us) _ z u _ E (hr.make C us [(kn, u)]) (I2.env0.make C us [(kn, u)]) r2 ru hq) fun r s' hq' => ?_))
  cases r with
  | error e => exact hx pins σ _ _ e s' I2 hq'
  | ok fl =>
    cases fl with
    | ret u =>
      obtain ⟨v, H', I3, rv, ev, q3⟩ := I2.after hq'
      subst ev
      exact ⟨rv, ⟨V.ref (s.heap.objs.size + 1), H', I3, rfl, q3⟩⟩
    | next => exact False.elim hq'
    | brk => exact False.elim hq'
    | cont => exact False.elim hq'
/-- C(e, ..) -/
theorem pe_mkC (hc : CallR X (.ref C) r) (hk : PySem.W.keepIn X.K (.ref C) = true) (hg : Gl X x) (hm : X.mg x = some (.ref C)) (ha : PA X (e :: es) t) (hdb : (x == ("__debug__" : Str)) = false := by decide)
    (he : starEach (e :: es) X.env = (false, eval e X.env) :: starEach es X.env := by rfl) (hpl : (backTo pos (starEach es X.env)).any (·.1) = false := by rfl) : PE X (.Call (.Name x p) (e :: es) [] pos) (tCB r t) := by
  refine ⟨fun pins s σ H Q I h => ?_⟩
  refine wpAny_Call_Name_kw (ld_glob I hg hm ?_ hdb)
  exact PySem.W.callWith_K (h₀ := X.base) I.ok.mod.kin hk (thn (ha.run pos pins s σ H _ I h) fun us s1 ⟨vs, H1, I1, r, q⟩ => ⟨I1.kIn, hc pins s1 σ H1 vs us Q I1 r q⟩) he hpl
theorem pe_mkC0 (hc : CallR X (.ref C) r) (hk : PySem.W.keepIn X.K (.ref C) = true) (hg : Gl X x) (hm : X.mg x = some (.ref C)) (hdb : (x == ("__debug__" : Str)) = false := by decide) : PE X (.Call (.Name x p) [] [] pos) (tCB r tNil) := by
  refine ⟨fun pins s σ H Q I h => ?_⟩
  refine wpAny_Call_Name_kw (ld_glob I hg hm ?_ hdb)
  exact PySem.W.callWith_K0 I.kIn hk (hc pins s σ H [] [] Q I .nil h)
/-- C(*e) -/
def tSt (K : PySem.W.Frag) (r : List V → Hp → VK → Prop) (te : TE) : TE := fun σ H Q => te σ H fun y H1 => ∃ a xs, y = V.ref a ∧ (SqT K H1 a xs ∨ SqL K H1 a xs) ∧ r xs H1 Q
theorem pe_mkS (hc : CallR X (.ref C) r) (hk : PySem.W.keepIn X.K (.ref C) = true) (hg : Gl X x) (hm : X.mg x = some (.ref C)) (he : PE X e te) (hd : (x == ("__debug__" : Str)) = false := by decide)
    (hst : starEach [.Starred e sp_] X.env = [(true, eval e X.env)] := by rfl) : PE X (.Call (.Name x p) [.Starred e sp_] [] pos) (tSt X.K r te) := by
  refine ⟨fun pins s σ H Q I h => ?_⟩
  refine wpAny_Call_Name_kw (ld_glob I hg hm ?_ hd)
  refine PySem.W.callWith_S (h₀ := X.base) I.ok.mod.kin hk (thn (he.run pins s σ H _ I h) fun v s1 ⟨y, H1, I1, ry, a, xs, ey, hxs, q⟩ => ?_) hst
  subst ey
  obtain rfl : v = Value.ref a := ry
  exact star_any I1 hxs fun us s2 I2 rv => ⟨I2.kIn, hc pins s2 σ H1 xs us Q I2 rv q⟩
/-- x(*e), x a slot that holds C -/
def tStL (K : PySem.W.Frag) (i : Nat) (C : Addr) (r : List V → Hp → VK → Prop) (te : TE) : TE := fun σ H Q => σ[i]? = some (some (.ref C)) ∧ te σ H fun y H1 => ∃ a xs, y = V.ref a ∧ (SqT K H1 a xs ∨ SqL K H1 a xs) ∧ r xs H1 Q
theorem pe_mkSL (hc : CallR X (.ref C) r) (hk : PySem.W.keepIn X.K (.ref C) = true) (hN : X.N[i]? = some x) (hv : Vis X.env.scope x) (he : PE X e te) (hdb : (x == ("__debug__" : Str)) = false := by decide) (hcd : (x == ("__classdict__" : Str)) = false := by decide)
    (hst : starEach [.Starred e sp_] X.env = [(true, eval e X.env)] := by rfl) : PE X (.Call (.Name x p) [.Starred e sp_] [] pos) (tStL X.K i C r te) := by
  refine ⟨fun pins s σ H Q I h => ?_⟩
  obtain ⟨hs, ht⟩ := h
  refine wpAny_Call_Name_kw (thn ((pe_var (pos := p) hN hv hdb hcd).run pins s σ H (fun v H1 => v = .ref C ∧ H1 = H) I ⟨.ref C, hs, rfl, rfl⟩) fun u s1 ⟨v, H1, I1, r1, q1⟩ => ?_)
  obtain ⟨rfl, rfl⟩ := q1
  cases r1
  refine PySem.W.callWith_S (h₀ := X.base) I.ok.mod.kin hk (thn (he.run pins s1 σ _ _ I1 ht) fun v s1 ⟨y, H1, I1, ry, a, xs, ey, hxs, q⟩ => ?_) hst
  subst ey
  obtain rfl : v = Value.ref a := ry
  exact star_any I1 hxs fun us s2 I2 rv => ⟨I2.kIn, hc pins s2 σ H1 xs us Q I2 rv q⟩
/-- C(*e, k = v) -/
def tStK (K : PySem.W.Frag) (r : List V → List V → Hp → VK → Prop) (te : TE) (tk : TA) : TE := fun σ H Q => te σ H fun y H1 => tk σ H1 fun zs H2 => ∃ a xs, y = V.ref a ∧ (SqT K H2 a xs ∨ SqL K H2 a xs) ∧ r xs zs H2 Q
theorem pe_mkSK (hc : CallRK X (.ref C) ks rk) (hk : PySem.W.keepIn X.K (.ref C) = true) (hg : Gl X x) (hm : X.mg x = some (.ref C)) (he : PE X e te) (hkw : PK X kws tk) (hd : (x == ("__debug__" : Str)) = false := by decide)
    (hall : (backToKw pos (keywordEach kws X.env)).all (·.1.isSome) = true := by rfl) (hks : (backToKw pos (keywordEach kws X.env)).filterMap (·.1) = ks := by rfl)
    (hst : starEach [.Starred e sp_] X.env = [(true, eval e X.env)] := by rfl) : PE X (.Call (.Name x p) [.Starred e sp_] kws pos) (tStK X.K rk te tk) := by
  refine ⟨fun pins s σ H Q I h => ?_⟩
  refine wpAny_Call_Name_kw (ld_glob I hg hm ?_ hd)
  rw [hst]
  refine ks_callKw rfl (PySem.W.keeps_K hk) (ks_loneKw hall (thn (he.run pins s σ H _ I h) fun v s1 ⟨y, H1, I1, ry, q1⟩ => ?_))
  refine thn (hkw.run pos pins s1 σ H1 _ I1 q1) fun ws s2 ⟨zs, H2, I2, rz, a, xs, ey, hxs, q⟩ => ?_
  subst ey
  obtain rfl : v = Value.ref a := ry
  refine star_any I2 hxs fun us s3 I3 rv => ⟨I3.kIn, ?_⟩
  rw [hks]
  exact hc pins s3 σ H2 xs zs us ws Q I3 rv rz q
end

theorem kit_refTy {K : PySem.W.Frag} {C : Addr} {T : String} (hm : PySem.W.kitMeta T = true) (h : PySem.W.mroIn K C (.type T) = some false) : PySem.W.kitOne K (.ref C) (.type T) = some false := by
  unfold PySem.W.kitOne
  rw [if_neg (by show ¬ ((Value.ref C == Value.type T) = true); exact fun q => nomatch (beq_iff_eq.mp q))]
  show (if PySem.W.kitMeta T = true then PySem.W.mroIn K C (.type T) else none) = some false
  rw [if_pos hm, h]
/-! ### own operators -/
section
variable {X : Cx} {CX : CXT} {C g : Addr} {n : Nat} {sp : Sp} {E : XK}
/-- x op y by an own method, both instances of C -/
def rOwnBin (C : Addr) (sp : Sp) (E : XK) : R2 := fun x y H Q => ∃ (a b dx dy : Addr) (fs fs' : List (Str × V)), x = .ref a ∧ y = .ref b ∧ H a = some (.ins C dx fs) ∧ H b = some (.ins C dy fs') ∧ sp [x, y] H Q E
theorem op_ownBin {op : Operator} (hc : PySem.W.selfFirst X.K C = true) (hs : PySem.W.findIn X.K (.ref C) (PySem.dunder op.info.2) = some (some (.ref g))) (hf : PySem.W.isFn X.K (.ref g) = true) (F : FnR X.prog X.w X.K X.mg X.base CX n g sp) (hr : Room n X.A) (hx : Passes CX X E) :
    OpR X (binaryOp op) (rOwnBin C sp E) := by
  intro pins s σ H x y v u Q I rx ry h
  obtain ⟨a, b, dx, dy, fs, fs', rfl, rfl, ha, hb, q⟩ := h
  cases (show v = Value.ref a from rx)
  cases (show u = Value.ref b from ry)
  obtain ⟨mA, O, _⟩ := ins_get I.hok ha
  obtain ⟨od, J, _⟩ := O.look
  obtain ⟨mB, O2, _⟩ := ins_get I.hok hb
  obtain ⟨od2, J2, _⟩ := O2.look
  obtain ⟨m, hF⟩ := I.fr
  refine PySem.W.binop_K hF I.ok.mod.kin J J2.type hc hs hf ?_
  refine wpAny_mono (wpAny_call (run_fnR (us := [.ref a, .ref b]) (vs := [.ref a, .ref b]) F hr hx I (.cons rfl (.cons rfl .nil)) q)) (fun w s' z => ?_) fun _ _ x => x
  obtain ⟨z', H', I', rz, qz⟩ := z
  exact cmpback rz ⟨z', H', I', rz, qz⟩
/-- ~x by an own method -/
def rOwnInv (C : Addr) (sp : Sp) (E : XK) : V → Hp → VK → Prop := fun x H Q => ∃ (a dx : Addr) (fs : List (Str × V)), x = .ref a ∧ H a = some (.ins C dx fs) ∧ sp [x] H Q E
theorem un_ownInv (hs : PySem.W.findIn X.K (.ref C) "__invert__" = some (some (.ref g))) (hf : PySem.W.isFn X.K (.ref g) = true) (F : FnR X.prog X.w X.K X.mg X.base CX n g sp) (hr : Room n X.A) (hx : Passes CX X E) :
    UnR X (unaryOp .Invert) (rOwnInv C sp E) := by
  intro pins s σ H x v Q I rx h
  obtain ⟨a, dx, fs, rfl, ha, q⟩ := h
  cases (show v = Value.ref a from rx)
  obtain ⟨mA, O, _⟩ := ins_get I.hok ha
  obtain ⟨od, J, _⟩ := O.look
  obtain ⟨m, hF⟩ := I.fr
  refine PySem.W.ksp_inv hF I.ok.mod.kin J hs hf ?_
  exact wpAny_call (run_fnR (us := [.ref a]) (vs := [.ref a]) F hr hx I (.cons rfl .nil) q)
end
end Lf

set_option Elab.async false
set_option linter.all false
set_option maxRecDepth 100000
set_option maxHeartbeats 4000000
/-! Comprehensions over a tuple or a list that only add objects: each item told by a function. -/
namespace Lf
open PySem PySem.Spec PyProof.Rows L2
/-- what one turn does: F tells what is added, if anything -/
def Turn1 (g : TG) (tt : TT) (te : TE) (vs : List Nat) (σ : L2.St) (H1 : Hp) (x : V) (r : Option V) : Prop :=
  ∀ (H' : Hp) (N : Option V → Hp → Prop), Same H1 H' → (∀ H4, Same H' H4 → N r H4) →
    g x (wipe σ vs) H' fun σ2 H2 => wipe σ2 vs = wipe σ vs ∧ tt σ2 H2 fun b H3 => if b = true then te σ2 H3 fun y H4 => N (some y) H4 else N none H3
theorem lc_tupF {K : PySem.W.Frag} {a : Addr} {xs : List V} {g : TG} {tt : TT} {te : TE} {vs : List Nat} {σ : L2.St} {H1 : Hp} {D : Addr} {Qd : Hp → Prop} (F : V → Option V) (nD : H1 D = none) (hz : xs.length < 100000)
    (hl : ∀ H', Same H1 H' → SqT K H' a xs) (hs : ∀ x ∈ xs, Turn1 g tt te vs σ H1 x (F x)) (hd : ∀ H', Same H1 H' → H' D = some (.lst (xs.filterMap F)) → Qd H') :
    ∃ W : Nat → Nat → Hp → Prop, (∃ m, W 0 m (upd H1 D (.lst []))) ∧ ∀ i m H, W i m H →
      ((Itt K a).stop i H ∧ Qd H) ∨ ((Itt K a).go i H ∧ ∃ Nx : Hp → Prop, (∀ H', Nx H' → ∃ m', m' < m ∧ W (i + 1) m' H') ∧ ∀ x H', (Itt K a).yld i H x H' → g x (wipe σ vs) H' fun σ2 H2 => wipe σ2 vs = wipe σ vs ∧ tt σ2 H2 fun b H3 =>
        if b = true then te σ2 H3 fun y H4 => ∃ acc, H4 D = some (.lst acc) ∧ acc.length < sizeLine ∧ Nx (upd H4 D (.lst (acc ++ [y]))) else Nx H3) := by
  refine lc_tup (K := K) (a := a) (xs := xs) (fun i H' => Same H1 H' ∧ H' D = some (.lst ((xs.take i).filterMap F))) ⟨Same.new nD, upd_same⟩ (fun i H' _ z => hl H' z.1) ?_ ?_
  · rintro i x H' hx ⟨s1, hD⟩
    have tk : (xs.take (i + 1)).filterMap F = (xs.take i).filterMap F ++ (F x).toList := by
      rw [List.take_add_one, hx, Option.toList_some, List.filterMap_append]
      cases e : F x <;> simp [e]
    have z := hs x (List.mem_of_getElem? hx) H' (fun r H4 => match r with
      | some y => ∃ acc, H4 D = some (.lst acc) ∧ acc.length < sizeLine ∧ (Same H1 (upd H4 D (.lst (acc ++ [y]))) ∧ upd H4 D (.lst (acc ++ [y])) D = some (.lst ((xs.take (i + 1)).filterMap F)))
      | none => Same H1 H4 ∧ H4 D = some (.lst ((xs.take (i + 1)).filterMap F))) s1 fun H4 s4 => ?_
    · exact z
    · cases e : F x with
      | none =>
        rw [e] at tk
        refine ⟨s1.trans s4, ?_⟩
        rw [tk, Option.toList_none, List.append_nil]
        exact s4 _ _ hD
      | some y =>
        rw [e] at tk
        refine ⟨_, s4 _ _ hD, ?_, fun q o h => ?_, ?_⟩
        · refine Nat.lt_of_lt_of_le ?_ (show 100000 ≤ sizeLine by decide)
          refine Nat.lt_of_le_of_lt (List.length_filterMap_le ..) (Nat.lt_of_le_of_lt ?_ hz)
          rw [List.length_take]
          exact Nat.min_le_right ..
        · rw [upd_ne (ne_of_none h nD)]
          exact s4 _ _ (s1 _ _ h)
        · rw [upd_same, tk]
          rfl
  · rintro H' ⟨s1, hD⟩
    rw [List.take_length] at hD
    exact hd H' s1 hD
theorem lc_listF {K : PySem.W.Frag} {a : Addr} {xs : List V} {g : TG} {tt : TT} {te : TE} {vs : List Nat} {σ : L2.St} {H1 : Hp} {D : Addr} {Qd : Hp → Prop} (F : V → Option V) (nD : H1 D = none) (hz : xs.length < 100000)
    (hl : ∀ H', Same H1 H' → SqL K H' a xs) (hs : ∀ x ∈ xs, Turn1 g tt te vs σ H1 x (F x)) (hd : ∀ H', Same H1 H' → H' D = some (.lst (xs.filterMap F)) → Qd H') :
    ∃ W : Nat → Nat → Hp → Prop, (∃ m, W 0 m (upd H1 D (.lst []))) ∧ ∀ i m H, W i m H →
      ((Itl K a).stop i H ∧ Qd H) ∨ ((Itl K a).go i H ∧ ∃ Nx : Hp → Prop, (∀ H', Nx H' → ∃ m', m' < m ∧ W (i + 1) m' H') ∧ ∀ x H', (Itl K a).yld i H x H' → g x (wipe σ vs) H' fun σ2 H2 => wipe σ2 vs = wipe σ vs ∧ tt σ2 H2 fun b H3 =>
        if b = true then te σ2 H3 fun y H4 => ∃ acc, H4 D = some (.lst acc) ∧ acc.length < sizeLine ∧ Nx (upd H4 D (.lst (acc ++ [y]))) else Nx H3) := by
  refine lc_list (K := K) (a := a) (xs := xs) (fun i H' => Same H1 H' ∧ H' D = some (.lst ((xs.take i).filterMap F))) ⟨Same.new nD, upd_same⟩ (fun i H' _ z => hl H' z.1) ?_ ?_
  · rintro i x H' hx ⟨s1, hD⟩
    have tk : (xs.take (i + 1)).filterMap F = (xs.take i).filterMap F ++ (F x).toList := by
      rw [List.take_add_one, hx, Option.toList_some, List.filterMap_append]
      cases e : F x <;> simp [e]
    have z := hs x (List.mem_of_getElem? hx) H' (fun r H4 => match r with
      | some y => ∃ acc, H4 D = some (.lst acc) ∧ acc.length < sizeLine ∧ (Same H1 (upd H4 D (.lst (acc ++ [y]))) ∧ upd H4 D (.lst (acc ++ [y])) D = some (.lst ((xs.take (i + 1)).filterMap F)))
      | none => Same H1 H4 ∧ H4 D = some (.lst ((xs.take (i + 1)).filterMap F))) s1 fun H4 s4 => ?_
    · exact z
    · cases e : F x with
      | none =>
        rw [e] at tk
        refine ⟨s1.trans s4, ?_⟩
        rw [tk, Option.toList_none, List.append_nil]
        exact s4 _ _ hD
      | some y =>
        rw [e] at tk
        refine ⟨_, s4 _ _ hD, ?_, fun q o h => ?_, ?_⟩
        · refine Nat.lt_of_lt_of_le ?_ (show 100000 ≤ sizeLine by decide)
          refine Nat.lt_of_le_of_lt (List.length_filterMap_le ..) (Nat.lt_of_le_of_lt ?_ hz)
          rw [List.length_take]
          exact Nat.min_le_right ..
        · rw [upd_ne (ne_of_none h nD)]
          exact s4 _ _ (s1 _ _ h)
        · rw [upd_same, tk]
          rfl
  · rintro H' ⟨s1, hD⟩
    rw [List.take_length] at hD
    exact hd H' s1 hD
/-- t + u of tuples -/
def rCatTS (K : PySem.W.Frag) : R2 := fun x y H Q => ∃ a b xs ys, x = .ref a ∧ y = .ref b ∧ SqT K H a xs ∧ SqT K H b ys ∧ xs.length + ys.length ≤ sizeLine ∧ ∀ p H', Same H H' → SqT K H' p (xs ++ ys) → Q (.ref p) H'
theorem op_catTS {X : Cx} : OpR X (binaryOp .Add) (rCatTS X.K) := by
  intro pins s σ H x y v u Q I rx ry h
  obtain ⟨a, b, xs, ys, h1, h2, h3, h4, h5, h6⟩ := h
  refine op_catA pins s σ H x y v u Q I rx ry ⟨a, b, xs, ys, h1, h2, h3, h4, h5, fun e => ?_, fun _ e => ?_, fun _ _ p hp => ?_⟩
  · exact h6 b H (Same.refl _) (by rw [e, List.nil_append]; exact h4)
  · exact h6 a H (Same.refl _) (by rw [e, List.append_nil]; exact h3)
  · exact h6 p _ (Same.new hp) (SqT.of upd_same)
/-- items told one for one -/
theorem fm_all {xs : List V} {F : V → V} : xs.filterMap (fun x => some (F x)) = xs.map F := by
  induction xs with
  | nil => rfl
  | cons x xs ih => rw [List.filterMap_cons, List.map_cons, ih]
def intF (p : Int → Bool) : V → Option V
  | .int c => if p c then some (.int c) else none
  | _ => none
theorem fm_ints (p : Int → Bool) : ∀ ns : List Int, (ns.map V.int).filterMap (intF p) = (ns.filter p).map V.int
  | [] => rfl
  | c :: ns => by
    rw [List.map_cons, List.filterMap_cons, List.filter_cons]
    have e : intF p (.int c) = if p c then some (.int c) else none := rfl
    rw [e]
    cases h : p c
    · simp [fm_ints p ns]
    · simp [fm_ints p ns]
end Lf

set_option Elab.async false
set_option linter.all false
set_option maxRecDepth 100000
set_option maxHeartbeats 4000000
/-! Own errors with fields: made, raised, caught, asked; an instance made inside a try. -/
namespace Lf
open PySem PySem.Spec PyProof.Rows L2

/-- what an own error class says, one row -/
structure ErrC (K : PySem.W.Frag) (C : Addr) : Prop where
  ox : OexC K C
  ga : PySem.W.findIn K (.ref C) "__getattribute__" = some (some (.builtin "BaseException.__getattribute__"))
  gg : PySem.W.findIn K (.ref C) "__getattr__" = some none
  hd : PySem.W.hasDictIn K C = true
  ca : PySem.W.findIn K (.ref C) "__class__" = some (some (.builtin "object.__class__"))
  cn : PySem.W.specialIn K (.builtin "object.__class__") "__get__" = some (some (.builtin "getset_descriptor.__get__"))
  ct : PySem.W.takesIn K (.builtin "object.__class__") = some true
  cm : PySem.W.mroIn K C (.type "object") = some true
theorem ErrC.xf {K : PySem.W.Frag} {C : Addr} (T : ErrC K C) : XfC K C := ⟨T.ga, T.gg, T.ox.exC, T.hd⟩
theorem ErrC.isc {K : PySem.W.Frag} {C : Addr} (T : ErrC K C) : (PySem.W.clsIn K C).isSome = true := by
  obtain ⟨cd, hc, _⟩ := PySem.W.any_some T.hd
  rw [hc]
  rfl
/-- «except C» of an error of the class at D -/
theorem ErrC.ex {K : PySem.W.Frag} {C : Addr} {cls : Value} {b : Bool} (T : ErrC K C) (h : PySem.W.subIn K cls (.ref C) = some b) : PySem.W.exmOne K cls (.ref C) = some b := PySem.W.exm_ref T.ox.exC T.hd T.ox.tyC h
theorem sub_self {K : PySem.W.Frag} {C : Addr} (T : ErrC K C) : PySem.W.subIn K (.ref C) (.ref C) = some true := by
  obtain ⟨nm, q, N, bs, bm, sn, sub, ab, col, dd, k0, k1, k2, k3, k5, hC, hbm⟩ := T.ox.cls
  show PySem.W.mroIn K C (.ref C) = some true
  have hcl : PySem.W.clsIn K C = some { name := nm, bases := bs, mro := .ref C :: bm, ns := N, qualname := q, hasDict := true, slotNames := sn, subclasses := sub, abstract := ab, collection := col, hasDel := false } := by
    unfold PySem.W.clsIn
    rw [hC] <;> rfl
  unfold PySem.W.mroIn
  rw [hcl, Option.bind_some]
  simp
/-- isinstance(e, c), e the error that the suite holds -/
def rIsX (K : PySem.W.Frag) (a : Addr) (cls : Value) (d : Option Addr) : List V → Hp → VK → Prop := fun xs H Q => ∃ (D dd : Addr) (fs : List (Str × V)) (c : V) (cv : Value) (b : Bool), xs = [.ref a, c] ∧ cls = .ref D ∧ d = some dd ∧ H dd = some (.xd fs) ∧ ErrC K D ∧ (∀ u, RelV c u → u = cv) ∧ PySem.W.kitOne K (.ref D) cv = some b ∧ Q (.bl b) H
theorem call_isX {X : Cx} {a : Addr} {cls : Value} {d : Option Addr} {oe : Obj} {pn : List (Addr × Obj)} (hz : Zc cls d oe) (hf : ∃ vs, oe.data = .fields vs) : CallR (X.suite a ((a, oe) :: pn)) (.builtin "isinstance") (rIsX X.K a cls d) := by
  intro pins s σ H xs us Q I r h
  obtain ⟨D, dd, fs, c, cv, b, rfl, rfl, rfl, hdd, C, hcv, e, q⟩ := h
  cases r with
  | cons rx rr =>
    cases rr with
    | cons rt rr =>
      cases rr
      cases rx
      have ec := hcv _ rt
      subst ec
      obtain ⟨hget, _⟩ := I.pin (a, oe) (List.mem_append_left _ List.mem_cons_self)
      obtain ⟨vs, hv⟩ := hf
      have hx : ObjOk X.prog X.w H s.heap dd (.xd fs) := I.hok dd _ hdd
      obtain ⟨mA, hns, hr⟩ := hx
      obtain ⟨od, ho, hl⟩ := lookIn_ns hns
      have J : PySem.W.InstAt s.heap a oe D (some od) := ⟨hget, hz.1, by unfold PySem.W.notCls; rw [hv] <;> rfl, by rw [hz.2]; exact ho⟩
      exact PySem.W.kia_one (PySem.W.kitx_exc C.isc C.ga C.gg C.ox.exC C.ca C.cn C.ct C.cm) I.kIn J e (fun z => nomatch z) fun tk => ⟨.bl b, H, I.kept (t' := tk) fun _ _ z => z, rfl, q⟩

theorem kit_refs {K : PySem.W.Frag} {T L : Addr} {b : Bool} (hi : PySem.W.isClsIn K L = true) (ht : PySem.W.typeIn K (.ref L) = some (.type "type")) (hs : PySem.W.mroIn K T (.ref T) = some true) (h : PySem.W.mroIn K T (.ref L) = some b) : PySem.W.kitOne K (.ref T) (.ref L) = some b := by
  by_cases e : T = L
  · subst e
    rw [kit_own, ← hs, h]
  · unfold PySem.W.kitOne
    rw [if_neg (by show ¬ ((Value.ref T == Value.ref L) = true); exact fun q => e (Value.ref.inj (beq_iff_eq.mp q)))]
    show (if ((PySem.W.clsIn K L).isSome && PySem.W.typeIn K (.ref L) == some (.type "type")) = true then PySem.W.subIn K (.ref T) (.ref L) else none) = some b
    rw [if_pos (isc_mk hi ht)]
    exact h
theorem kit_refTyB {K : PySem.W.Frag} {C : Addr} {T : String} {b : Bool} (hm : PySem.W.kitMeta T = true) (h : PySem.W.mroIn K C (.type T) = some b) : PySem.W.kitOne K (.ref C) (.type T) = some b := by
  unfold PySem.W.kitOne
  rw [if_neg (by show ¬ ((Value.ref C == Value.type T) = true); exact fun q => nomatch (beq_iff_eq.mp q))]
  show (if PySem.W.kitMeta T = true then PySem.W.mroIn K C (.type T) else none) = some b
  rw [if_pos hm, h]
/-! ### making an instance where an error may be let out -/
def tMakeAt (C : Addr) (sp : Sp) (E : L2.St → XK) (t : TA) : TE := fun σ H Q => t σ H fun vs H1 => ∀ x dx, H1 x = Option.none → H1 dx = Option.none → dx ≠ x →
  sp (V.ref x :: vs) (upd (upd H1 dx (.own x)) x (.ins C dx [])) (fun v H2 => v = .non ∧ Q (.ref x) H2) (E σ)
section
variable {X : Cx} {CX : CXT} {k : Nat} {f C : Addr} {sp : Sp} {E : L2.St → XK} {x : Str} {e : Expr} {es : List Expr} {t : TA} {p pos : Pos}
theorem pe_makeAt (M : Mk X.K C f) (F : FnR X.prog X.w X.K X.mg X.base CX k f sp) (hr : Room (k + 1) X.A) (hg : Gl X x) (hm : X.mg x = some (.ref C)) (hx : ∀ σ, PassesAt CX X σ (E σ)) (ha : PA X (e :: es) t) (hdb : (x == ("__debug__" : Str)) = false := by decide)
    (he : starEach (e :: es) X.env = (false, eval e X.env) :: starEach es X.env := by rfl) (hpl : (backTo pos (starEach es X.env)).any (·.1) = false := by rfl) : PE X (.Call (.Name x p) (e :: es) [] pos) (tMakeAt C sp E t) := by
  refine ⟨fun pins s σ H Q I h => ?_⟩
  refine wpAny_Call_Name_kw (ld_glob I hg hm ?_ hdb)
  refine PySem.W.callWith_K (h₀ := X.base) I.ok.mod.kin M.kp (thn (ha.run pos pins s σ H _ I h) fun us s1 ⟨vs, H1, I1, r, q⟩ => ⟨I1.kIn, ?_⟩) he hpl
  have hq := q (s1.heap.objs.size + 1) s1.heap.objs.size (I1.hok.fresh (Nat.le_succ _)) (I1.hok.fresh (Nat.le_refl _)) (Nat.ne_of_lt (Nat.lt_succ_self _))
  have I2 := Inv.made (C := C) I1
  have r2 : Vals (V.ref (s1.heap.objs.size + 1) :: vs) (Value.ref (s1.heap.objs.size + 1) :: us) := .cons rfl r
  refine wpAny_call (make_map (f := f) I1.kIn M.makes M.init (beq_iff_eq.mp M.fn) (codeAny_mono (F _ X.stack _ _ (Value.ref (s1.heap.objs.size + 1) :: us) _ _ (E σ) (hr.make C us []) (I2.env0.make C us []) r2 hq) fun r s' hq' => ?_))
  cases r with
  | error e => exact hx σ pins _ _ e s' I2 hq'
  | ok fl =>
    cases fl with
    | ret u =>
      obtain ⟨v, H', I3, rv, ev, q3⟩ := I2.after hq'
      subst ev
      exact ⟨rv, ⟨V.ref (s1.heap.objs.size + 1), H', I3, rfl, q3⟩⟩
    | next => exact False.elim hq'
    | brk => exact False.elim hq'
    | cont => exact False.elim hq'
end
/-- the promise of an error's __init__ that sets one field -/
def spErr (C : Addr) (f : Str) : Sp := fun vs H Q _ => ∃ (e : Addr) (y : V), vs = [.ref e, y] ∧ H e = some (exo e C none) ∧ ∀ d, H d = none → d ≠ e → Q .non (upd (upd H d (exd d [(f, y)])) e (exo e C (some d)))
/-- what a raise of such an error leaves -/
theorem mkErr {C : Addr} {f : Str} {y : V} {H : Hp} {Q : XK} (h : ∀ d H', H d = none → Same H H' → H' d = some (.xd [(f, y)]) → Q (.ref C) (some d) H') (a : Addr) (na : H a = none) :
    spErr C f [.ref a, y] (upd H a (exo a C none)) (fun v H2 => v = .non ∧ ∃ (d : Addr) (fs : List (Str × V)), H2 a = some (exo a C (some d)) ∧ H2 d = some (exd d fs) ∧ H d = none ∧ Q (.ref C) (some d) (upd (del H2 a) d (.xd fs))) (fun _ _ _ => False) := by
  refine ⟨a, y, rfl, upd_same, fun d nd nda => ⟨rfl, d, [(f, y)], upd_same, ?_, ?_, ?_⟩⟩
  · rw [upd_ne nda, upd_same]
  · rw [upd_ne nda] at nd
    exact nd
  · have nd' : H d = none := by
      rw [upd_ne nda] at nd
      exact nd
    refine h d _ nd' (fun q o e => ?_) upd_same
    have n1 : q ≠ d := ne_of_none e nd'
    have n2 : q ≠ a := ne_of_none e na
    rw [upd_ne n1, del_ne n2, upd_ne n2, upd_ne n1, upd_ne n2]
    exact e
end Lf

set_option Elab.async false
set_option linter.all false
set_option maxRecDepth 100000
set_option maxHeartbeats 4000000
set_option pp.maxSteps 1500
set_option pp.deepTerms false
namespace Toy
open PySem L2 Lf
def top (i : Nat) : Stmt := PySem.Challenge.pw_linkedfilters_k58_answers_put_together.main.body.getD i (.Pass ⟨0, 0, 0, 0⟩)
abbrev s_is_integer : Stmt := top 1
abbrev s_TooMany__init : Stmt := inClass (top 5) 0
abbrev s_repeated_positions : Stmt := top 8
abbrev s_Answer__init : Stmt := inClass (top 9) 0
abbrev s_Answer__len : Stmt := inClass (top 9) 1
abbrev s_Answer__contains : Stmt := inClass (top 9) 4
abbrev s_Answer__add : Stmt := inClass (top 9) 6
abbrev s_Answer_times : Stmt := inClass (top 9) 7
abbrev s_Answer_distinct : Stmt := inClass (top 9) 8
abbrev s_l_bag : Stmt := top 11
abbrev s_l_draw : Stmt := top 12
abbrev s_l_of : Stmt := top 13
abbrev s_l_counts : Stmt := top 14
abbrev s_l_rows : Stmt := top 15
abbrev s_l_refused : Stmt := top 16
abbrev s_l_is : Stmt := top 17
abbrev s_l_right : Stmt := top 18
abbrev s_law : Stmt := top 19
structure Ad where
  f_is_integer : Addr
  d_is_integer : FuncData
  f_TooMany__init : Addr
  d_TooMany__init : FuncData
  f_repeated_positions : Addr
  d_repeated_positions : FuncData
  f_Answer__init : Addr
  d_Answer__init : FuncData
  f_Answer__len : Addr
  d_Answer__len : FuncData
  f_Answer__contains : Addr
  d_Answer__contains : FuncData
  f_Answer__add : Addr
  d_Answer__add : FuncData
  f_Answer_times : Addr
  d_Answer_times : FuncData
  f_Answer_distinct : Addr
  d_Answer_distinct : FuncData
  f_l_bag : Addr
  d_l_bag : FuncData
  f_l_draw : Addr
  d_l_draw : FuncData
  f_l_of : Addr
  d_l_of : FuncData
  f_l_counts : Addr
  d_l_counts : FuncData
  f_l_rows : Addr
  d_l_rows : FuncData
  f_l_refused : Addr
  d_l_refused : FuncData
  f_l_is : Addr
  d_l_is : FuncData
  f_l_right : Addr
  d_l_right : FuncData
  f_law : Addr
  d_law : FuncData
  C_LinkedError : Addr
  C_BadRow : Addr
  C_TooMany : Addr
  C_Answer : Addr
structure Txt (K : PySem.W.Frag) (mg : Str → Option Value) (a : Ad) : Prop where
  F_is_integer : Fun K "is_integer" "is_integer" s_is_integer a.f_is_integer a.d_is_integer
  k_is_integer : PySem.W.keepIn K (.ref a.f_is_integer) = true
  a_is_integer : Binds K a.d_is_integer ["value"] []
  m_is_integer : mg "is_integer" = some (.ref a.f_is_integer)
  F_TooMany__init : Fun K "__init__" "TooMany.__init__" s_TooMany__init a.f_TooMany__init a.d_TooMany__init
  k_TooMany__init : PySem.W.keepIn K (.ref a.f_TooMany__init) = true
  a_TooMany__init : Binds K a.d_TooMany__init ["self", "what"] []
  f_TooMany__init : PySem.W.findIn K (.ref a.C_TooMany) "__init__" = some (some (.ref a.f_TooMany__init))
  ty_TooMany__init : PySem.W.typeIn K (.ref a.f_TooMany__init) = some (.type "function")
  F_repeated_positions : Fun K "repeated_positions" "repeated_positions" s_repeated_positions a.f_repeated_positions a.d_repeated_positions
  k_repeated_positions : PySem.W.keepIn K (.ref a.f_repeated_positions) = true
  a_repeated_positions : Binds K a.d_repeated_positions ["times"] []
  m_repeated_positions : mg "repeated_positions" = some (.ref a.f_repeated_positions)
  F_Answer__init : FunD K "__init__" "Answer.__init__" (defArgs s_Answer__init) (defBody s_Answer__init) (defScope s_Answer__init) [] [("most", .int 3000)] a.f_Answer__init a.d_Answer__init
  k_Answer__init : PySem.W.keepIn K (.ref a.f_Answer__init) = true
  a_Answer__init : ∃ ds, Vals [.int 3000] ds ∧ Binds K a.d_Answer__init ["self", "times", "most"] ds
  t_Answer__init : Meth K a.C_Answer "__init__" a.f_Answer__init
  f_Answer__init : PySem.W.findIn K (.ref a.C_Answer) "__init__" = some (some (.ref a.f_Answer__init))
  i_Answer__init : PySem.W.isFn K (.ref a.f_Answer__init) = true
  fi_Answer__init : PySem.W.fnIn K a.f_Answer__init = true
  F_Answer__len : Fun K "__len__" "Answer.__len__" s_Answer__len a.f_Answer__len a.d_Answer__len
  k_Answer__len : PySem.W.keepIn K (.ref a.f_Answer__len) = true
  a_Answer__len : Binds K a.d_Answer__len ["self"] []
  t_Answer__len : Meth K a.C_Answer "__len__" a.f_Answer__len
  f_Answer__len : PySem.W.findIn K (.ref a.C_Answer) "__len__" = some (some (.ref a.f_Answer__len))
  i_Answer__len : PySem.W.isFn K (.ref a.f_Answer__len) = true
  fi_Answer__len : PySem.W.fnIn K a.f_Answer__len = true
  F_Answer__contains : Fun K "__contains__" "Answer.__contains__" s_Answer__contains a.f_Answer__contains a.d_Answer__contains
  k_Answer__contains : PySem.W.keepIn K (.ref a.f_Answer__contains) = true
  a_Answer__contains : Binds K a.d_Answer__contains ["self", "position"] []
  t_Answer__contains : Meth K a.C_Answer "__contains__" a.f_Answer__contains
  f_Answer__contains : PySem.W.findIn K (.ref a.C_Answer) "__contains__" = some (some (.ref a.f_Answer__contains))
  i_Answer__contains : PySem.W.isFn K (.ref a.f_Answer__contains) = true
  fi_Answer__contains : PySem.W.fnIn K a.f_Answer__contains = true
  F_Answer__add : Fun K "__add__" "Answer.__add__" s_Answer__add a.f_Answer__add a.d_Answer__add
  k_Answer__add : PySem.W.keepIn K (.ref a.f_Answer__add) = true
  a_Answer__add : Binds K a.d_Answer__add ["self", "other"] []
  t_Answer__add : Meth K a.C_Answer "__add__" a.f_Answer__add
  f_Answer__add : PySem.W.findIn K (.ref a.C_Answer) "__add__" = some (some (.ref a.f_Answer__add))
  i_Answer__add : PySem.W.isFn K (.ref a.f_Answer__add) = true
  fi_Answer__add : PySem.W.fnIn K a.f_Answer__add = true
  F_Answer_times : Fun K "times" "Answer.times" s_Answer_times a.f_Answer_times a.d_Answer_times
  k_Answer_times : PySem.W.keepIn K (.ref a.f_Answer_times) = true
  a_Answer_times : Binds K a.d_Answer_times ["self", "position"] []
  t_Answer_times : Meth K a.C_Answer "times" a.f_Answer_times
  f_Answer_times : PySem.W.findIn K (.ref a.C_Answer) "times" = some (some (.ref a.f_Answer_times))
  i_Answer_times : PySem.W.isFn K (.ref a.f_Answer_times) = true
  fi_Answer_times : PySem.W.fnIn K a.f_Answer_times = true
  F_Answer_distinct : Fun K "distinct" "Answer.distinct" s_Answer_distinct a.f_Answer_distinct a.d_Answer_distinct
  k_Answer_distinct : PySem.W.keepIn K (.ref a.f_Answer_distinct) = true
  a_Answer_distinct : Binds K a.d_Answer_distinct ["self"] []
  t_Answer_distinct : Meth K a.C_Answer "distinct" a.f_Answer_distinct
  f_Answer_distinct : PySem.W.findIn K (.ref a.C_Answer) "distinct" = some (some (.ref a.f_Answer_distinct))
  i_Answer_distinct : PySem.W.isFn K (.ref a.f_Answer_distinct) = true
  fi_Answer_distinct : PySem.W.fnIn K a.f_Answer_distinct = true
  F_l_bag : Fun K "_law_bag" "_law_bag" s_l_bag a.f_l_bag a.d_l_bag
  k_l_bag : PySem.W.keepIn K (.ref a.f_l_bag) = true
  a_l_bag : Binds K a.d_l_bag ["_law_script", "_law_at"] []
  m_l_bag : mg "_law_bag" = some (.ref a.f_l_bag)
  F_l_draw : Fun K "_law_draw" "_law_draw" s_l_draw a.f_l_draw a.d_l_draw
  k_l_draw : PySem.W.keepIn K (.ref a.f_l_draw) = true
  a_l_draw : Binds K a.d_l_draw ["_law_bag_here", "_law_many"] []
  m_l_draw : mg "_law_draw" = some (.ref a.f_l_draw)
  F_l_of : Fun K "_law_of" "_law_of" s_l_of a.f_l_of a.d_l_of
  k_l_of : PySem.W.keepIn K (.ref a.f_l_of) = true
  a_l_of : Binds K a.d_l_of ["_law_bag_here", "_law_some"] []
  m_l_of : mg "_law_of" = some (.ref a.f_l_of)
  F_l_counts : Fun K "_law_counts" "_law_counts" s_l_counts a.f_l_counts a.d_l_counts
  k_l_counts : PySem.W.keepIn K (.ref a.f_l_counts) = true
  a_l_counts : Binds K a.d_l_counts ["_law_bag_here"] []
  m_l_counts : mg "_law_counts" = some (.ref a.f_l_counts)
  F_l_rows : Fun K "_law_rows" "_law_rows" s_l_rows a.f_l_rows a.d_l_rows
  k_l_rows : PySem.W.keepIn K (.ref a.f_l_rows) = true
  a_l_rows : Binds K a.d_l_rows ["_law_counts_here"] []
  m_l_rows : mg "_law_rows" = some (.ref a.f_l_rows)
  F_l_refused : Fun K "_law_refused" "_law_refused" s_l_refused a.f_l_refused a.d_l_refused
  k_l_refused : PySem.W.keepIn K (.ref a.f_l_refused) = true
  a_l_refused : Binds K a.d_l_refused ["_law_counts_here"] []
  m_l_refused : mg "_law_refused" = some (.ref a.f_l_refused)
  F_l_is : Fun K "_law_is" "_law_is" s_l_is a.f_l_is a.d_l_is
  k_l_is : PySem.W.keepIn K (.ref a.f_l_is) = true
  a_l_is : Binds K a.d_l_is ["_law_told", "_law_rows_here"] []
  m_l_is : mg "_law_is" = some (.ref a.f_l_is)
  F_l_right : Fun K "_law_right" "_law_right" s_l_right a.f_l_right a.d_l_right
  k_l_right : PySem.W.keepIn K (.ref a.f_l_right) = true
  a_l_right : Binds K a.d_l_right ["_law_bag_here"] []
  m_l_right : mg "_law_right" = some (.ref a.f_l_right)
  F_law : Fun K "law" "law" s_law a.f_law a.d_law
  k_law : PySem.W.keepIn K (.ref a.f_law) = true
  a_law : Binds K a.d_law ["_law_script"] []
  m_law : mg "law" = some (.ref a.f_law)
  kb_Answer__init : ∃ mv : List Value, KBn K a.d_Answer__init ["self", "times", "most"] 2 ["most"] (fun us ws => us ++ ws) (fun vs zs => vs ++ zs)
  ks_TooMany_LinkedError : PySem.W.kitOne K (.ref a.C_TooMany) (.ref a.C_LinkedError) = some true
  ks_TooMany_BadRow : PySem.W.kitOne K (.ref a.C_TooMany) (.ref a.C_BadRow) = some false
  ks_TooMany_VE : PySem.W.kitOne K (.ref a.C_TooMany) (.type "ValueError") = some true
  m_LinkedError : mg "LinkedError" = some (.ref a.C_LinkedError)
  m_BadRow : mg "BadRow" = some (.ref a.C_BadRow)
  m_TooMany : mg "TooMany" = some (.ref a.C_TooMany)
  e_TooMany : ErrC K a.C_TooMany
  n_TooMany_what : PySem.W.findIn K (.ref a.C_TooMany) "what" = some none
  ct_Answer : ClsT K a.C_Answer
  m_Answer : mg "Answer" = some (.ref a.C_Answer)
  mk_Answer : Mk K a.C_Answer a.f_Answer__init
  nq_Answer : PySem.W.noSeq K a.C_Answer = true
  sf_Answer : PySem.W.selfFirst K a.C_Answer = true
  n_Answer_rows : NoAttr K a.C_Answer "rows"
  b_len : mg "len" = none
  b_abs : mg "abs" = none
  b_int : mg "int" = none
  b_range : mg "range" = none
  b_isinstance : mg "isinstance" = none
  b_max : mg "max" = none
  b_min : mg "min" = none
  b_sum : mg "sum" = none
  b_list : mg "list" = none
  b_tuple : mg "tuple" = none
  b_enumerate : mg "enumerate" = none
  b_bool : mg "bool" = none
  b_set : mg "set" = none
  b_sorted : mg "sorted" = none
  b_ValueError : mg "ValueError" = none
theorem Txt.c_Answer {K : PySem.W.Frag} {mg : Str → Option Value} {a : Ad} (T : Txt K mg a) : Cls K a.C_Answer := T.ct_Answer.cl
theorem Txt.o_Answer {K : PySem.W.Frag} {mg : Str → Option Value} {a : Ad} (T : Txt K mg a) : PySem.W.mroIn K a.C_Answer (.type "object") = some true := T.ct_Answer.cm
theorem Txt.ne_Answer {K : PySem.W.Frag} {mg : Str → Option Value} {a : Ad} (T : Txt K mg a) : PySem.W.findIn K (.ref a.C_Answer) "__ne__" = some (some (.builtin "object.__ne__")) := T.ct_Answer.ne
section
variable {P : Program} {w : World} {K : PySem.W.Frag} {mg : Str → Option Value} {base : Heap} {a : Ad}


/-- each place as often as the number at it says -/
def rowsF : Nat → List Int → List Int
  | _, [] => []
  | k, c :: r => List.replicate c.toNat (k : Int) ++ rowsF (k + 1) r
theorem rowsF_snoc (c : Int) : ∀ (k : Nat) (xs : List Int), rowsF k (xs ++ [c]) = rowsF k xs ++ List.replicate c.toNat ((k + xs.length : Nat) : Int)
  | k, [] => by show List.replicate c.toNat (k : Int) ++ [] = [] ++ _; rw [List.append_nil, List.nil_append]; rfl
  | k, x :: xs => by
    show List.replicate x.toNat (k : Int) ++ rowsF (k + 1) (xs ++ [c]) = List.replicate x.toNat (k : Int) ++ rowsF (k + 1) xs ++ _
    rw [rowsF_snoc c (k + 1) xs, List.append_assoc, List.length_cons]
    congr 4
    omega
theorem rowsF_take {ns : List Int} {i : Nat} {c : Int} (h : ns[i]? = some c) : rowsF 0 (ns.take (i + 1)) = rowsF 0 (ns.take i) ++ List.replicate c.toNat (i : Int) := by
  have hl : i < ns.length := (List.getElem?_eq_some_iff.mp h).1
  rw [List.take_add_one, h]
  show rowsF 0 (ns.take i ++ [c]) = _
  rw [rowsF_snoc, List.length_take, Nat.min_eq_left (Nat.le_of_lt hl), Nat.zero_add]
theorem rowsF_len : ∀ (k : Nat) (xs : List Int), (∀ c ∈ xs, 0 ≤ c) → ((rowsF k xs).length : Int) = xs.sum
  | _, [], _ => rfl
  | k, x :: xs, h => by
    have h1 := h x (List.mem_cons_self ..)
    have h2 := rowsF_len (k + 1) xs fun c hc => h c (List.mem_cons_of_mem _ hc)
    show ((List.replicate x.toNat (k : Int) ++ rowsF (k + 1) xs).length : Int) = (x :: xs).sum
    rw [List.length_append, List.length_replicate, List.sum_cons]
    omega
theorem sum_nonneg : ∀ (xs : List Int), (∀ c ∈ xs, 0 ≤ c) → 0 ≤ xs.sum
  | [], _ => by decide
  | x :: xs, h => by
    have h1 := h x (List.mem_cons_self ..)
    have h2 := sum_nonneg xs fun c hc => h c (List.mem_cons_of_mem _ hc)
    rw [List.sum_cons]
    omega
theorem take_sum_le : ∀ (xs : List Int) (i : Nat), (∀ c ∈ xs, 0 ≤ c) → (xs.take i).sum ≤ xs.sum
  | [], _, _ => by simp
  | x :: xs, 0, h => by
    have := sum_nonneg (x :: xs) h
    simpa using this
  | x :: xs, i + 1, h => by
    have h2 := take_sum_le xs i fun c hc => h c (List.mem_cons_of_mem _ hc)
    rw [List.take_succ_cons, List.sum_cons, List.sum_cons]
    omega
theorem mem_nonneg_take {xs : List Int} {i : Nat} (h : ∀ c ∈ xs, 0 ≤ c) : ∀ c ∈ xs.take i, 0 ≤ c := fun c hc => h c (List.mem_of_mem_take hc)
theorem le_sum : ∀ (xs : List Int) (c : Int), (∀ c ∈ xs, 0 ≤ c) → c ∈ xs → c ≤ xs.sum
  | x :: xs, c, h, hc => by
    have h1 := h x (List.mem_cons_self ..)
    have h2 := sum_nonneg xs fun c hc => h c (List.mem_cons_of_mem _ hc)
    rw [List.sum_cons]
    rcases List.mem_cons.mp hc with e | e
    · omega
    · have := le_sum xs c (fun c hc => h c (List.mem_cons_of_mem _ hc)) e
      omega

theorem cnt_rows (k : Nat) (i : Int) : ∀ cs : List Int, (∀ c ∈ cs, 0 ≤ c) → ((rowsF k cs).count i : Int) = if h : (k : Int) ≤ i ∧ i < k + cs.length then cs.getD (i - k).toNat 0 else 0 := by
  intro cs
  induction cs generalizing k with
  | nil =>
    intro _
    rw [dif_neg (by simp only [List.length_nil]; omega)]
    rfl
  | cons c cs ih =>
    intro h
    have h1 := h c (List.mem_cons_self ..)
    have h2 := ih (k + 1) fun c hc => h c (List.mem_cons_of_mem _ hc)
    show (((List.replicate c.toNat (k : Int) ++ rowsF (k + 1) cs).count i : Nat) : Int) = _
    rw [List.count_append, List.count_replicate, Int.natCast_add, h2, List.length_cons]
    by_cases e : i = k
    · subst e
      rw [dif_neg (by omega), dif_pos (by omega)]
      simp
      omega
    · have e' : ((k : Int) == i) = false := by simpa using fun z : (k : Int) = i => e z.symm
      rw [e']
      by_cases q : (k : Int) ≤ i ∧ i < k + (cs.length + 1 : Nat)
      · rw [dif_pos (by omega), dif_pos q]
        have e2 : (i - (k : Int)).toNat = (i - ((k + 1 : Nat) : Int)).toNat + 1 := by omega
        rw [e2]
        simp
      · rw [dif_neg (by omega), dif_neg q]
        simp
theorem rows_ge (k : Nat) : ∀ (cs : List Int), ∀ i ∈ rowsF k cs, (k : Int) ≤ i := by
  intro cs
  induction cs generalizing k with
  | nil => intro i hi; cases hi
  | cons c cs ih =>
    intro i hi
    rcases List.mem_append.mp (show i ∈ List.replicate c.toNat (k : Int) ++ rowsF (k + 1) cs from hi) with h | h
    · rw [(List.mem_replicate.mp h).2]
      exact Int.le_refl _
    · have := ih (k + 1) i h
      omega
theorem rows_up (k : Nat) : ∀ (cs : List Int), (rowsF k cs).Pairwise (· ≤ ·) := by
  intro cs
  induction cs generalizing k with
  | nil => exact List.Pairwise.nil
  | cons c cs ih =>
    show (List.replicate c.toNat (k : Int) ++ rowsF (k + 1) cs).Pairwise (· ≤ ·)
    refine List.pairwise_append.mpr ⟨?_, ih (k + 1), fun x hx y hy => ?_⟩
    · exact List.pairwise_replicate.mpr (.inr (Int.le_refl _))
    · rw [(List.mem_replicate.mp hx).2]
      have := rows_ge (k + 1) cs y hy
      omega
theorem up_eq : ∀ {xs ys : List Int}, xs.Pairwise (· ≤ ·) → ys.Pairwise (· ≤ ·) → (∀ k, xs.count k = ys.count k) → xs = ys
  | [], [], _, _, _ => rfl
  | [], y :: ys, _, _, h => by have := h y; simp at this
  | x :: xs, [], _, _, h => by have := h x; simp at this
  | x :: xs, y :: ys, h1, h2, h => by
    obtain ⟨a1, a2⟩ := List.pairwise_cons.mp h1
    obtain ⟨b1, b2⟩ := List.pairwise_cons.mp h2
    have e : x = y := by
      have hx : x ∈ y :: ys := List.count_pos_iff.mp (by rw [← h x, List.count_cons_self]; omega)
      have hy : y ∈ x :: xs := List.count_pos_iff.mp (by rw [h y, List.count_cons_self]; omega)
      have u1 : y ≤ x := by
        rcases List.mem_cons.mp hx with e | e
        · omega
        · exact b1 x e
      have u2 : x ≤ y := by
        rcases List.mem_cons.mp hy with e | e
        · omega
        · exact a1 y e
      omega
    subst e
    rw [up_eq a2 b2 fun k => by
      have := h k
      rw [List.count_cons, List.count_cons] at this
      omega]

/-- is_integer: what its answer is -/
def spIsInt (K : PySem.W.Frag) : Sp := fun vs H Q _ => ∃ (v : V), vs = [v] ∧ ((∃ i, v = .int i ∧ Q (.bl true) H) ∨ (∃ b, v = .bl b ∧ Q (.bl false) H) ∨
  ∃ t : Value, TyX K H v t ∧ PySem.W.kitOne K t (.type "int") = some false ∧ Q (.bl false) H)
theorem sc_is_integer : FnScope ["value"] ["value"] (defScope s_is_integer) := ⟨rfl, rfl, rfl, by decide +kernel, rfl, by decide +kernel, by decide +kernel⟩
theorem ok_is_integer (T : Txt K mg a) : FnOk P w K mg base CX0 1 a.f_is_integer a.d_is_integer ["value"] (spIsInt K) := by
  refine T.F_is_integer.ok sc_is_integer (fun vs H Q E h => ?_) (fun cdv A outer s H vs Q E hr h => ?_)
  · obtain ⟨v, rfl, _⟩ := h
    rfl
  · obtain ⟨v, rfl, k⟩ := h
    refine ⟨_, (pss_one (ps_ret (pe_and (pe_callB call_isi (by rfl) T.b_isinstance (by decide +kernel) (pa_cons (pv 0) (pa_cons (pe_bltn (v := .ty "int") (by rfl) T.b_int (by decide +kernel) rfl) pa_nil))) (pe_one (pe_not (pe_callB call_isi (by rfl) T.b_isinstance (by decide +kernel) (pa_cons (pv 0) (pa_cons (pe_bltn (v := .ty "bool") (by rfl) T.b_bool (by decide +kernel) rfl) pa_nil)))))))), ?_⟩
    rcases k with ⟨i, rfl, k⟩ | ⟨b, rfl, k⟩ | ⟨t, ty, hk, k⟩
    · refine ⟨_, rfl, _, _, _, _, true, rfl, .ty _, .base (.int i), kit_ty (by decide +kernel), _, rfl, iteT ?_⟩
      exact ⟨_, rfl, _, _, _, _, false, rfl, .ty _, .base (.int i), kit_ty (by decide +kernel), _, rfl, k⟩
    · refine ⟨_, rfl, _, _, _, _, true, rfl, .ty _, .base (.bl b), kit_ty (by decide +kernel), _, rfl, iteT ?_⟩
      exact ⟨_, rfl, _, _, _, _, true, rfl, .ty _, .base (.bl b), kit_ty (by decide +kernel), _, rfl, k⟩
    · exact ⟨_, rfl, _, _, _, _, false, rfl, .ty _, ty, hk, _, rfl, iteF k⟩

/-- repeated_positions: a new tuple -/
def spRep (K : PySem.W.Frag) : Sp := fun vs H Q _ => ∃ (l : Addr) (ns : List Int), vs = [.ref l] ∧ SqL K H l (ns.map V.int) ∧ (∀ c ∈ ns, 0 ≤ c) ∧ ns.sum ≤ 50000 ∧
  ∀ p H', H p = none → Same H H' → TupD H' p ((rowsF 0 ns).map V.int) → Q (.ref p) H'
theorem sc_repeated_positions : FnScope ["times", "found", "at", "many"] ["times"] (defScope s_repeated_positions) := ⟨rfl, rfl, rfl, by decide +kernel, rfl, by decide +kernel, by decide +kernel⟩
theorem ok_repeated_positions (T : Txt K mg a) : FnOk P w K mg base CX0 1 a.f_repeated_positions a.d_repeated_positions ["times"] (spRep K) := by
  refine T.F_repeated_positions.ok sc_repeated_positions (fun vs H Q E h => ?_) (fun cdv A outer s H vs Q E hr h => ?_)
  · obtain ⟨l, ns, rfl, _⟩ := h
    rfl
  · obtain ⟨l, ns, rfl, hl, h0, hs, k⟩ := h
    refine ⟨_, (pss_cons (ps_set (i := 1) sc_repeated_positions.nd rfl (.inl rfl) (pe_lstS pa_nil))
      (pss_cons (ps_for PassesOwn.never rfl (pi_enum (by rfl) T.b_enumerate (pa_cons (pv 0) pa_nil)) (pg_tup rfl (pgs_cons (pg_name (i := 2) sc_repeated_positions.nd rfl (.inl rfl)) (pgs_cons (pg_name (i := 3) sc_repeated_positions.nd rfl (.inl rfl)) pgs_nil)))
      (pss_one (ps_expr (pe_bm PySem.F.plainAttrs_list PySem.F.slot_list_extend PySem.F.type_list_extend mt_extend (pv 1) (pa_cons (pe_op op_repS (pe_lstS (pa_cons (pv 2) pa_nil)) (pv 3)) pa_nil)))))
      (pss_one (ps_ret (pe_callTy call_tupleD (by rfl) T.b_tuple (by decide +kernel) (pa_cons (pv 1) pa_nil)))))), ?_⟩
    refine ⟨(by show 0 ≤ sizeLine; decide), fun D H1 nD s1 hD => ?_⟩
    have hl1 := s1.seq hl
    refine ⟨_, rfl, l, _, rfl, hl1, for_it (walk_enum (K := K) (a := l) (xs := ns.map V.int)) (fun i σ H' => ∃ (v2 v3 : Option V), σ = [some (.ref l), some (.ref D), v2, v3] ∧ H' D = some (.lst ((rowsF 0 (ns.take i)).map V.int)) ∧ ∀ q o, H q = some o → H' q = some o)
      ⟨_, _, rfl, hD, fun q o e => s1 q o e⟩ (fun i σ H' _ ⟨_, _, _, _, z⟩ => Same.seq z hl) ?_ ?_⟩
    · rintro i x σ H2 H3 hi ⟨v2, v3, rfl, hD2, z⟩ ⟨T1, x1, y1, rfl, nT, rfl, e1, e2⟩
      cases e1
      have e2' : (ns.map V.int)[i]? = some y1 := e2
      rw [List.getElem?_map] at e2'
      obtain ⟨c, hc, rfl⟩ := Option.map_eq_some_iff.mp e2'
      have hc0 : 0 ≤ c := h0 c (List.mem_of_getElem? hc)
      have hcs : c ≤ ns.sum := le_sum ns c h0 (List.mem_of_getElem? hc)
      have nDT : D ≠ T1 := ne_of_none hD2 nT
      have hD3 : (upd H2 T1 (.tup [.int (i : Nat), .int c])) D = some (.lst ((rowsF 0 (ns.take i)).map V.int)) := by rw [upd_ne nDT]; exact hD2
      refine ⟨T1, _, rfl, SqT.of upd_same, rfl, _, _, rfl, _, _, rfl, rfl, ?_⟩
      refine ⟨_, rfl, .inl ⟨rfl, _, SqL.of hD3⟩, _, rfl, (by show 1 ≤ sizeLine; decide), fun q H4 nq s4 hq => ?_⟩
      refine ⟨_, rfl, q, _, _, rfl, rfl, hq, by omega, by omega, ?_, fun r H5 nr s5 hr5 => ?_⟩
      · show 1 * c.toNat ≤ sizeLine
        exact sz_of (by omega)
      · have e3 : (List.replicate c.toNat [V.int (i : Nat)]).flatten = (List.replicate c.toNat (i : Int)).map V.int := by rw [flat1, List.map_replicate]
        rw [e3] at hr5
        have hlen : (((rowsF 0 (ns.take i)).length : Nat) : Int) ≤ ns.sum := by
          rw [rowsF_len 0 _ (mem_nonneg_take h0)]
          exact take_sum_le ns i h0
        refine ⟨D, r, _, _, rfl, rfl, s5 _ _ (s4 _ _ hD3), hr5, ?_, _, _, rfl, ?_, ?_⟩
        · rw [List.length_map, List.length_map, List.length_replicate]
          exact sz_of (by omega)
        · rw [upd_same, rowsF_take hc, List.map_append]
        · intro b o e
          have nb : b ≠ D := ne_of_none e nD
          rw [upd_ne nb]
          exact s5 b o (s4 b o ((Same.new nT) b o (z b o e)))
    · rintro σ H2 ⟨v2, v3, rfl, hD2, z⟩
      rw [List.length_map, List.take_length] at hD2
      exact ⟨_, rfl, D, _, rfl, SqL.of hD2, fun p H3 np s3 hp => k p H3 (Same.free z np) (Same.trans z s3) hp⟩
def fl_Answer (x0 : Addr) : List (Str × V) := [("rows", .ref x0)]
theorem lk_Answer_rows (x0 : Addr) : (fl_Answer x0).lookup ("rows" : Str) = some (.ref x0) := by unfold fl_Answer; exact lk0
theorem lk_Answer_no_times (x0 : Addr) : (fl_Answer x0).lookup ("times" : Str) = none := by unfold fl_Answer; rw [lk1 (by decide +kernel)]; rfl
theorem lk_Answer_no_distinct (x0 : Addr) : (fl_Answer x0).lookup ("distinct" : Str) = none := by unfold fl_Answer; rw [lk1 (by decide +kernel)]; rfl
/-- an answer with these rows -/
def AnsAt (a : Ad) (H : Hp) (x : Addr) (rs : List Int) : Prop := ∃ dx p, H x = some (.ins a.C_Answer dx (fl_Answer p)) ∧ TupD H p (rs.map V.int)
theorem AnsAt.keep {H H' : Hp} {x : Addr} {rs : List Int} (h : AnsAt a H x rs) (s : Same H H') : AnsAt a H' x rs := by
  obtain ⟨dx, p, h1, h2⟩ := h
  exact ⟨dx, p, s _ _ h1, h2.keep s⟩
theorem AnsAt.but {H H' : Hp} {x b : Addr} {rs : List Int} (h : AnsAt a H x rs) (s : But b H H') (hb : ∃ xs, H b = some (.lst xs)) : AnsAt a H' x rs := by
  obtain ⟨dx, p, h1, ⟨o, h2, h3⟩⟩ := h
  obtain ⟨xs, hb⟩ := hb
  exact ⟨dx, p, s _ _ h1 (ne_of h1 hb (by intro z; cases z)), o, s _ _ h2 (ne_of h2 hb (by intro z; cases z)), h3⟩

end
end Toy

set_option Elab.async false
set_option linter.all false
set_option maxRecDepth 100000
set_option maxHeartbeats 4000000
set_option pp.maxSteps 1500
set_option pp.deepTerms false
namespace Toy
open PySem L2 Lf
section
variable {P : Program} {w : World} {K : PySem.W.Frag} {mg : Str → Option Value} {base : Heap} {a : Ad}
theorem inV_ints (i : Int) : ∀ rs : List Int, inV (.int i) (rs.map V.int) = decide (i ∈ rs)
  | [] => rfl
  | r :: rs => by
    show (eqV (.int r) (.int i) || inV (.int i) (rs.map V.int)) = decide (i ∈ r :: rs)
    rw [inV_ints i rs]
    show ((r == i) || decide (i ∈ rs)) = decide (i ∈ r :: rs)
    by_cases h : r = i
    · subst h; simp
    · have h' : ¬ i = r := fun z => h z.symm
      simp [h, h']
theorem flat_ints : ∀ rs : List Int, (rs.map V.int).all flatV = true
  | [] => rfl
  | r :: rs => by rw [List.map_cons, List.all_cons, flat_ints rs]; rfl
def cutI (rs : List Int) (lo hi : Option Int) : List Int := (rs.drop (HT.sIx rs.length 0 lo)).take (HT.sIx rs.length rs.length hi - HT.sIx rs.length 0 lo)
theorem cutV_ints (rs : List Int) (lo hi : Option Int) : cutV (rs.map V.int) lo hi = (cutI rs lo hi).map V.int := by
  unfold cutV cutI
  rw [List.length_map, List.map_take, List.map_drop]
theorem cutV_whole {xs : List V} {lo hi : Option Int} (h : HT.sIx xs.length 0 lo = 0 ∧ HT.sIx xs.length xs.length hi = xs.length) : cutV xs lo hi = xs := by
  unfold cutV
  rw [h.1, h.2, List.drop_zero, Nat.sub_zero, List.take_length]
theorem atI_map {rs : List Int} {i v : Int} (h : atI rs i = some v) : atI (rs.map V.int) i = some (.int v) := by
  unfold atI at h ⊢
  rw [List.length_map]
  cases e : ixN rs.length i with
  | none => rw [e] at h; cases h
  | some j =>
    rw [e] at h
    have h' : rs[j]? = some v := h
    show (rs.map V.int)[j]? = some (.int v)
    rw [List.getElem?_map, h']
    rfl
theorem sc_TooMany__init : FnScope ["self", "what"] ["self", "what"] (defScope s_TooMany__init) := ⟨rfl, rfl, rfl, by decide +kernel, rfl, by decide +kernel, by decide +kernel⟩
theorem ok_TooMany__init (T : Txt K mg a) : FnOk P w K mg base CX0 1 a.f_TooMany__init a.d_TooMany__init ["self", "what"] (spErr a.C_TooMany "what") := by
  refine T.F_TooMany__init.ok sc_TooMany__init (fun vs H Q E h => ?_) (fun cdv A outer s H vs Q E hr h => ?_)
  · obtain ⟨e, y, rfl, _⟩ := h
    rfl
  · obtain ⟨e, y, rfl, he, k⟩ := h
    refine ⟨_, (pss_one (ps_ost (pv 0) (pv 1))), ?_⟩
    exact ⟨_, rfl, _, rfl, e, a.C_TooMany, rfl, T.e_TooMany.ox, T.n_TooMany_what, .inl ⟨he, fun d nd ne => k d nd ne⟩⟩

def spAInit (K : PySem.W.Frag) (a : Ad) : Sp := fun vs H Q E => ∃ (x dx l : Addr) (ns : List Int) (most : Int), vs = [.ref x, .ref l, .int most] ∧ H x = some (.ins a.C_Answer dx []) ∧ SqL K H l (ns.map V.int) ∧ (∀ c ∈ ns, 0 ≤ c) ∧
  ((ns.sum ≤ most ∧ ns.sum ≤ 50000 ∧ ∀ p H', But x H H' → H' x = some (.ins a.C_Answer dx (fl_Answer p)) → TupD H' p ((rowsF 0 ns).map V.int) → Q .non H') ∨
    (most < ns.sum ∧ ∀ d H', H d = none → Same H H' → H' d = some (.xd [("what", .str "rows")]) → E (.ref a.C_TooMany) (some d) H'))
theorem sc_Answer__init : FnScope ["self", "times", "most"] ["self", "times", "most"] (defScope s_Answer__init) := ⟨rfl, rfl, rfl, by decide +kernel, rfl, by decide +kernel, by decide +kernel⟩
theorem ok_Answer__init (T : Txt K mg a) : FnOk P w K mg base (L2.CX P w) 3 a.f_Answer__init a.d_Answer__init ["self", "times", "most"] (spAInit K a) := by
  refine T.F_Answer__init.ok sc_Answer__init (fun vs H Q E h => ?_) (fun cdv A outer s H vs Q E hr h => ?_)
  · obtain ⟨x, dx, l, ns, most, rfl, _⟩ := h
    rfl
  · obtain ⟨x, dx, l, ns, most, rfl, hx, hl, h0, kk⟩ := h
    refine ⟨_, (pss_cons (ps_if (pt_cmpR op_gt (pe_callB (cr_sum rfl) (by rfl) T.b_sum (by decide +kernel) (pa_cons (pe_callTy call_list_ofS (by rfl) T.b_list (by decide +kernel) (pa_cons (pv 1) pa_nil)) pa_nil)) (pv 2) (nomark _)) (pss_one (ps_raise rfl (takes_of rfl rfl rfl rfl) (pmk_oex T.e_TooMany.ox T.f_TooMany__init T.ty_TooMany__init (ok_TooMany__init T) (hr.mono (by decide)) T.a_TooMany__init .nil pass0 rfl T.m_TooMany (pa_cons pe_str pa_nil)))) pss_nil)
      (pss_one (ps_fld (pv 0) (pe_call (ok_repeated_positions T) (hr.mono (by decide)) rfl T.m_repeated_positions T.k_repeated_positions T.a_repeated_positions .nil pass0 (pa_cons (pv 1) pa_nil)) rfl))), ?_⟩
    refine ⟨_, rfl, l, _, rfl, .inl hl, fun q H1 nq s1 hq => ?_⟩
    refine ⟨q, ns, rfl, SqL.of hq, _, rfl, _, _, rfl, rfl, _, rfl, ?_⟩
    rcases kk with ⟨hs, hs2, k⟩ | ⟨hs, k⟩
    · refine ite2 (fun h => absurd (of_decide_eq_true h) (by omega)) (fun _ => ?_)
      refine ⟨_, rfl, l, ns, rfl, s1.seq hl, h0, hs2, fun p H2 np s2 hp => ?_⟩
      have hx2 := s2 _ _ (s1 _ _ hx)
      refine ⟨_, rfl, x, a.C_Answer, dx, [], rfl, hx2, T.c_Answer, T.n_Answer_rows, (by show 0 < 1000; decide), ?_⟩
      obtain ⟨o, ho, hd⟩ := hp
      have npx : p ≠ x := ne_of ho hx2 (by intro z; cases z)
      refine k p _ (fun b o e nb => ?_) upd_same ⟨o, by rw [upd_ne npx]; exact ho, hd⟩
      rw [upd_ne nb]
      exact s2 b o (s1 b o e)
    · refine ite2 (fun _ => ?_) (fun h => absurd (decide_eq_true (show most < ns.sum from hs)) h)
      refine ⟨(by show 1 ≤ 1000; decide), fun e ne => mkErr (fun d H' nd s' hd => k d H' (s1.free nd) (s1.trans s') hd) e ne⟩
def spALen (a : Ad) : Sp := fun vs H Q _ => ∃ (x : Addr) (rs : List Int), vs = [.ref x] ∧ AnsAt a H x rs ∧ Q (.int (rs.length : Nat)) H
theorem sc_Answer__len : FnScope ["self"] ["self"] (defScope s_Answer__len) := ⟨rfl, rfl, rfl, by decide +kernel, rfl, by decide +kernel, by decide +kernel⟩
theorem ok_Answer__len (T : Txt K mg a) : FnOk P w K mg base CX0 1 a.f_Answer__len a.d_Answer__len ["self"] (spALen a) := by
  refine T.F_Answer__len.ok sc_Answer__len (fun vs H Q E h => ?_) (fun cdv A outer s H vs Q E hr h => ?_)
  · obtain ⟨x, rs, rfl, _⟩ := h
    rfl
  · obtain ⟨x, rs, rfl, hx, k⟩ := h
    refine ⟨_, (pss_one (ps_ret (pe_callB call_len_seq (by rfl) T.b_len PySem.boot_len (pa_cons (pe_fld (pv 0) rfl) pa_nil)))), ?_⟩
    obtain ⟨dx, p, h1, h2⟩ := hx
    refine ⟨_, rfl, x, a.C_Answer, dx, _, _, rfl, h1, T.c_Answer, T.n_Answer_rows, lk_Answer_rows _, p, _, rfl, .inr h2.seq, ?_⟩
    rw [List.length_map]
    exact k

def spAHas (K : PySem.W.Frag) (a : Ad) : Sp := fun vs H Q _ => ∃ (x : Addr) (rs : List Int) (v : V), vs = [.ref x, v] ∧ AnsAt a H x rs ∧
  ((∃ i, v = .int i ∧ Q (.bl (decide (i ∈ rs))) H) ∨ (∃ b, v = .bl b ∧ Q (.bl false) H) ∨ ∃ t : Value, TyX K H v t ∧ PySem.W.kitOne K t (.type "int") = some false ∧ Q (.bl false) H)
theorem sc_Answer__contains : FnScope ["self", "position"] ["self", "position"] (defScope s_Answer__contains) := ⟨rfl, rfl, rfl, by decide +kernel, rfl, by decide +kernel, by decide +kernel⟩
theorem ok_Answer__contains (T : Txt K mg a) : FnOk P w K mg base CX0 2 a.f_Answer__contains a.d_Answer__contains ["self", "position"] (spAHas K a) := by
  refine T.F_Answer__contains.ok sc_Answer__contains (fun vs H Q E h => ?_) (fun cdv A outer s H vs Q E hr h => ?_)
  · obtain ⟨x, rs, v, rfl, _⟩ := h
    rfl
  · obtain ⟨x, rs, v, rfl, hx, k⟩ := h
    refine ⟨_, (pss_one (ps_ret (pe_and (pe_call (ok_is_integer T) (hr.mono (by decide)) rfl T.m_is_integer T.k_is_integer T.a_is_integer .nil pass0 (pa_cons (pv 1) pa_nil)) (pe_one (pe_cmpR op_in_seq (pv 1) (pe_fld (pv 0) rfl) rfl))))), ?_⟩
    obtain ⟨dx, p, h1, h2⟩ := hx
    rcases k with ⟨i, rfl, k⟩ | ⟨b, rfl, k⟩ | ⟨t, ty, hk, k⟩
    · refine ⟨_, rfl, _, rfl, .inl ⟨i, rfl, _, rfl, iteT ?_⟩⟩
      refine ⟨_, rfl, _, rfl, x, a.C_Answer, dx, _, _, rfl, h1, T.c_Answer, T.n_Answer_rows, lk_Answer_rows _, p, _, rfl, .inr h2.seq, rfl, flat_ints rs, ?_⟩
      show Q (.bl (inV (.int i) (rs.map V.int))) H
      rw [inV_ints]
      exact k
    · exact ⟨_, rfl, _, rfl, .inr (.inl ⟨b, rfl, _, rfl, iteF k⟩)⟩
    · exact ⟨_, rfl, _, rfl, .inr (.inr ⟨t, ty, hk, _, rfl, iteF k⟩)⟩

def spATimes (a : Ad) : Sp := fun vs H Q _ => ∃ (x : Addr) (rs : List Int) (i : Int), vs = [.ref x, .int i] ∧ AnsAt a H x rs ∧ Q (.int (rs.count i : Nat)) H
theorem sc_Answer_times : FnScope ["self", "position"] ["self", "position"] (defScope s_Answer_times) := ⟨rfl, rfl, rfl, by decide +kernel, rfl, by decide +kernel, by decide +kernel⟩
theorem ok_Answer_times (T : Txt K mg a) : FnOk P w K mg base CX0 1 a.f_Answer_times a.d_Answer_times ["self", "position"] (spATimes a) := by
  refine T.F_Answer_times.ok sc_Answer_times (fun vs H Q E h => ?_) (fun cdv A outer s H vs Q E hr h => ?_)
  · obtain ⟨x, rs, i, rfl, _⟩ := h
    rfl
  · obtain ⟨x, rs, i, rfl, hx, k⟩ := h
    refine ⟨_, (pss_one (ps_ret (pe_bmT PySem.F.plainAttrs_tuple PySem.F.slot_tuple_count PySem.F.type_tuple_count mt_tcount (pe_fld (pv 0) rfl) (pa_cons (pv 1) pa_nil)))), ?_⟩
    obtain ⟨dx, p, h1, h2⟩ := hx
    exact ⟨_, rfl, x, a.C_Answer, dx, _, _, rfl, h1, T.c_Answer, T.n_Answer_rows, lk_Answer_rows _, ⟨p, _, rfl, h2⟩, _, rfl, p, rs, i, rfl, rfl, h2.seq, k⟩

end
end Toy

set_option Elab.async false
set_option linter.all false
set_option maxRecDepth 100000
set_option maxHeartbeats 4000000
set_option pp.maxSteps 1500
set_option pp.deepTerms false
namespace Toy
open PySem L2 Lf
section
variable {P : Program} {w : World} {K : PySem.W.Frag} {mg : Str → Option Value} {base : Heap} {a : Ad}

theorem cs_get {f : Int → Int} {n : Nat} {j : Nat} (h : j < n) : (((List.range n).map fun (i : Nat) => f (i : Int))).getD j 0 = f j := by
  rw [List.getD_eq_getElem?_getD, List.getElem?_map, List.getElem?_range h]
  rfl
theorem cs_count {f : Int → Int} {m : Int} (hm : -1 ≤ m) (h0 : ∀ k, 0 ≤ f k) (hz : ∀ k, (k < 0 ∨ m < k) → f k = 0) (k : Int) :
    ((rowsF 0 ((List.range (1 + m).toNat).map fun (i : Nat) => f (i : Int))).count k : Int) = f k := by
  rw [cnt_rows 0 k _ fun c hc => by
    obtain ⟨i, _, rfl⟩ := List.mem_map.mp hc
    exact h0 _]
  by_cases q : ((0 : Nat) : Int) ≤ k ∧ k < ((0 : Nat) : Int) + ((List.range (1 + m).toNat).map fun (i : Nat) => f (i : Int)).length
  · rw [dif_pos q]
    rw [List.length_map, List.length_range] at q
    obtain ⟨j, rfl⟩ : ∃ j : Nat, k = j := ⟨k.toNat, by omega⟩
    have e : ((j : Int) - ((0 : Nat) : Int)).toNat = j := by omega
    rw [e, cs_get (by omega)]
  · rw [dif_neg q]
    rw [List.length_map, List.length_range] at q
    exact (hz k (by omega)).symm
theorem perm_len {xs ys : List Int} (h : ∀ k, xs.count k = ys.count k) : xs.length = ys.length := (List.perm_iff_count.mpr h).length_eq
theorem cnt0 {rs : List Int} {m k : Int} (h0 : ∀ c ∈ rs, 0 ≤ c) (hm : ∀ c ∈ rs, c ≤ m) (h : k < 0 ∨ m < k) : rs.count k = 0 := List.count_eq_zero.mpr fun z => by
  have := h0 k z
  have := hm k z
  omega

def spAAdd (a : Ad) : Sp := fun vs H Q _ => ∃ (x y : Addr) (rs ss : List Int), vs = [.ref x, .ref y] ∧ AnsAt a H x rs ∧ AnsAt a H y ss ∧ (∀ k ∈ rs, 0 ≤ k) ∧ (∀ k ∈ ss, 0 ≤ k) ∧ (∀ k ∈ rs, k < 1000) ∧ (∀ k ∈ ss, k < 1000) ∧ rs.length + ss.length ≤ 50000 ∧
  ∀ z zs H', zs.Pairwise (· ≤ ·) → (∀ k, zs.count k = rs.count k + ss.count k) → Same H H' → AnsAt a H' z zs → Q (.ref z) H'
theorem sc_Answer__add : FnScope ["self", "other", "many", "counts", "at"] ["self", "other"] (defScope s_Answer__add) := ⟨rfl, rfl, rfl, by decide +kernel, rfl, by decide +kernel, by decide +kernel⟩
theorem ok_Answer__add (T : Txt K mg a) : FnOk P w K mg base CX0 5 a.f_Answer__add a.d_Answer__add ["self", "other"] (spAAdd a) := by
  refine T.F_Answer__add.ok sc_Answer__add (fun vs H Q E h => ?_) (fun cdv A outer s H vs Q E hr h => ?_)
  · obtain ⟨x, y, rs, ss, rfl, _⟩ := h
    rfl
  · obtain ⟨x, y, rs, ss, rfl, hx, hy, r0, s0, r1, s1', hl, k⟩ := h
    obtain ⟨kv_Answer__init, kb_Answer__init⟩ := T.kb_Answer__init
    obtain ⟨ds_Answer__init, vd_Answer__init, bd_Answer__init⟩ := T.a_Answer__init
    refine ⟨_, (pss_cons (ps_set (i := 2) sc_Answer__add.nd rfl (.inl rfl) (pe_op op_add pe_int (pe_callB (cr_max rfl) (by rfl) T.b_max (by decide +kernel) (pa_cons (pe_lstS (pa_cons (pe_un un_neg pe_int) (StX.pa_star (pe_fld (pv 0) rfl) (StX.pa_star (pe_fld (pv 1) rfl) pa_nil)))) pa_nil))))
      (pss_cons (ps_setLc (i := 3) (own := [("at", 4)]) (g := gName 4) (tt := tYes) (te := (tOp rAddI (tBMT (rCntT K) (tFld K (tVar 0) "rows") (tCons (tVar 4) tNil)) (tBMT (rCntT K) (tFld K (tVar 1) "rows") (tCons (tVar 4) tNil)))) rfl sc_Answer__add.nd rfl rfl (sw_true rfl rfl rfl (by decide +kernel)) (pi_range1 (by rfl) T.b_range (pa_cons (pv 2) pa_nil)) (blkOk_by (own := [("at", 4)]) (N := ["self", "other", "many", "counts", "at"]) (sc := defScope s_Answer__add) (by decide +kernel)) (fun _ _ _ _ _ => (pg_name (i := 4) sc_Answer__add.nd rfl (.inl rfl))) (fun _ _ _ _ _ => pts_nil) (fun _ _ _ _ _ => (pe_op op_add (pe_bmT PySem.F.plainAttrs_tuple PySem.F.slot_tuple_count PySem.F.type_tuple_count mt_tcount (pe_fld (pv 0) rfl) (pa_cons (pv 4) pa_nil)) (pe_bmT PySem.F.plainAttrs_tuple PySem.F.slot_tuple_count PySem.F.type_tuple_count mt_tcount (pe_fld (pv 1) rfl) (pa_cons (pv 4) pa_nil)))))
      (pss_one (ps_ret (pe_makeK T.mk_Answer (ok_Answer__init T) (hr.mono (by decide)) rfl T.m_Answer kb_Answer__init passL (pa_cons (pv 3) pa_nil) (pk_cons (pe_callB (cr_sum rfl) (by rfl) T.b_sum (by decide +kernel) (pa_cons (pv 3) pa_nil)) pk_nil)))))), ?_⟩
    obtain ⟨dx, p, hx, hp⟩ := hx
    obtain ⟨dy, p', hy, hp'⟩ := hy
    refine ⟨_, rfl, _, rfl, x, a.C_Answer, dx, _, _, rfl, hx, T.c_Answer, T.n_Answer_rows, lk_Answer_rows _, p, _, rfl, .inl hp.seq, _, rfl, y, a.C_Answer, dy, _, _, rfl, hy, T.c_Answer, T.n_Answer_rows, lk_Answer_rows _, p', _, rfl, .inl hp'.seq, ?_, fun q H1 nq s1 hq => ?_⟩
    · rw [List.append_nil, List.length_cons, List.length_append, List.length_map, List.length_map]
      exact sz_of (by omega)
    have e1 : (V.int (-1) :: (rs.map V.int ++ (ss.map V.int ++ []))) = ((-1) :: (rs ++ ss)).map V.int := by
      rw [List.append_nil, List.map_cons, List.map_append]
    rw [e1] at hq
    refine ⟨q, _, rfl, SqL.of hq, by simp, fun m hm hmax => ?_⟩
    refine ⟨_, _, rfl, rfl, ?_⟩
    have m0 : -1 ≤ m := hmax (-1) (List.mem_cons_self ..)
    have mr : ∀ c ∈ rs, c ≤ m := fun c hc => hmax c (List.mem_cons_of_mem _ (List.mem_append_left _ hc))
    have ms : ∀ c ∈ ss, c ≤ m := fun c hc => hmax c (List.mem_cons_of_mem _ (List.mem_append_right _ hc))
    have m1 : m < 1000 := by
      rcases List.mem_cons.mp hm with e | e
      · omega
      · exact (List.mem_append.mp e).elim (r1 m) (s1' m)
    have hx1 := s1 _ _ hx
    have hy1 := s1 _ _ hy
    have hp1 := hp.keep s1
    have hp1' := hp'.keep s1
    refine ⟨_, rfl, _, rfl, by omega, by omega, fun D nD => ?_⟩
    refine lc_range (lo := 0) (fun i H2 => H2 D = some (.lst (((List.range i).map fun (j : Nat) => ((rs.count (j : Int) : Nat) : Int) + ((ss.count (j : Int) : Nat) : Int)).map V.int)) ∧ Same H1 H2)
      ⟨upd_same, Same.new nD⟩ ?_ ?_
    · rintro i H2 hi ⟨hD, s2⟩
      have hx2 := s2 _ _ hx1
      have hy2 := s2 _ _ hy1
      have hp2 := hp1.keep s2
      have hp2' := hp1'.keep s2
      refine ⟨rfl, _, rfl, x, a.C_Answer, dx, _, _, rfl, hx2, T.c_Answer, T.n_Answer_rows, lk_Answer_rows _, ⟨p, _, rfl, hp2⟩, _, rfl, p, rs, _, rfl, rfl, hp2.seq, _, rfl, y, a.C_Answer, dy, _, _, rfl, hy2, T.c_Answer, T.n_Answer_rows, lk_Answer_rows _, ⟨p', _, rfl, hp2'⟩, _, rfl, p', ss, _, rfl, rfl, hp2'.seq, _, _, rfl, rfl, _, hD, ?_, ?_, fun q o e => ?_⟩
      · rw [List.length_map, List.length_map, List.length_range]
        exact sz_lt (by omega)
      · rw [upd_same, List.range_succ, List.map_append, List.map_append, Int.zero_add]
        rfl
      · rw [upd_ne (ne_of_none e nD)]
        exact s2 q o e
    rintro H2 ⟨hD, s2⟩
    have em : (1 + m).toNat = (1 + m).toNat := rfl
    generalize ecs : ((List.range (1 + m).toNat).map fun (j : Nat) => ((rs.count (j : Int) : Nat) : Int) + ((ss.count (j : Int) : Nat) : Int)) = cs at hD
    have c0 : ∀ c ∈ cs, 0 ≤ c := fun c hc => by
      rw [← ecs] at hc
      obtain ⟨i, _, rfl⟩ := List.mem_map.mp hc
      omega
    have cc : ∀ k, (rowsF 0 cs).count k = rs.count k + ss.count k := fun k => by
      have := cs_count (f := fun k => ((rs.count k : Nat) : Int) + ((ss.count k : Nat) : Int)) m0 (fun k => by omega) (fun k h => by
        have h1 := cnt0 r0 mr h
        have h2 := cnt0 s0 ms h
        omega) k
      rw [ecs] at this
      omega
    have cl : (rowsF 0 cs).length = rs.length + ss.length := by
      rw [← List.length_append]
      exact perm_len fun k => by rw [cc, List.count_append]
    have csum : cs.sum ≤ 50000 := by
      have := rowsF_len 0 cs c0
      omega
    refine ⟨_, rfl, _, rfl, D, cs, rfl, SqL.of hD, rfl, rfl, fun z dz nz ndz _ => ?_⟩
    refine ⟨z, dz, D, cs, cs.sum, rfl, upd_same, (Same.make nz ndz).seq (SqL.of hD), c0, .inl ⟨Int.le_refl _, csum, fun pv H3 bt3 hz3 hp3 => ⟨rfl, ?_⟩⟩⟩
    exact k z _ H3 (rows_up 0 cs) cc ((s1.trans s2).trans (made_same nz ndz bt3)) ⟨dz, pv, hz3, hp3⟩

def spADis (a : Ad) : Sp := fun vs H Q _ => ∃ (x : Addr) (rs : List Int), vs = [.ref x] ∧ AnsAt a H x rs ∧ (∀ k ∈ rs, 0 ≤ k) ∧ (∀ k ∈ rs, k < 1000) ∧ rs.length ≤ 50000 ∧
  ∀ z zs H', zs.Pairwise (· ≤ ·) → (∀ k, zs.count k = if rs.count k = 0 then 0 else 1) → Same H H' → AnsAt a H' z zs → Q (.ref z) H'
theorem sum_le_len : ∀ cs : List Int, (∀ c ∈ cs, c ≤ 1) → cs.sum ≤ cs.length
  | [], _ => by decide
  | c :: cs, h => by
    have h1 := h c (List.mem_cons_self ..)
    have h2 := sum_le_len cs fun c hc => h c (List.mem_cons_of_mem _ hc)
    rw [List.sum_cons, List.length_cons]
    omega
theorem sc_Answer_distinct : FnScope ["self", "many", "at"] ["self"] (defScope s_Answer_distinct) := ⟨rfl, rfl, rfl, by decide +kernel, rfl, by decide +kernel, by decide +kernel⟩
theorem ok_Answer_distinct (T : Txt K mg a) : FnOk P w K mg base CX0 5 a.f_Answer_distinct a.d_Answer_distinct ["self"] (spADis a) := by
  refine T.F_Answer_distinct.ok sc_Answer_distinct (fun vs H Q E h => ?_) (fun cdv A outer s H vs Q E hr h => ?_)
  · obtain ⟨x, rs, rfl, _⟩ := h
    rfl
  · obtain ⟨x, rs, rfl, hx, r0, r1, hl, k⟩ := h
    obtain ⟨kv_Answer__init, kb_Answer__init⟩ := T.kb_Answer__init
    obtain ⟨ds_Answer__init, vd_Answer__init, bd_Answer__init⟩ := T.a_Answer__init
    refine ⟨_, (pss_cons (ps_set (i := 1) sc_Answer_distinct.nd rfl (.inl rfl) (pe_op op_add pe_int (pe_callB (cr_max rfl) (by rfl) T.b_max (by decide +kernel) (pa_cons (pe_lstS (pa_cons (pe_un un_neg pe_int) (StX.pa_star (pe_fld (pv 0) rfl) pa_nil))) pa_nil))))
      (pss_one (ps_ret (pe_make T.mk_Answer (ok_Answer__init T) (hr.mono (by decide)) rfl T.m_Answer bd_Answer__init vd_Answer__init passL (pa_cons (pe_lc (own := [("at", 2)]) (g := gName 2) (tt := tYes) (te := (tCB (fun xs H Q => ∃ i j : Int, xs = [.int i, .int j] ∧ Q (.int (if j < i then j else i)) H) (tCons (tC (.int 1)) (tCons (tBMT (rCntT K) (tFld K (tVar 0) "rows") (tCons (tVar 2) tNil)) tNil)))) rfl sc_Answer_distinct.nd (pi_range1 (by rfl) T.b_range (pa_cons (pv 1) pa_nil)) (blkOk_by (own := [("at", 2)]) (N := ["self", "many", "at"]) (sc := defScope s_Answer_distinct) (by decide +kernel)) (fun _ _ _ _ _ => (pg_name (i := 2) sc_Answer_distinct.nd rfl (.inl rfl))) (fun _ _ _ _ _ => pts_nil) (fun _ _ _ _ _ => (pe_callB (call_min2 rfl) (by rfl) T.b_min (by decide +kernel) (pa_cons pe_int (pa_cons (pe_bmT PySem.F.plainAttrs_tuple PySem.F.slot_tuple_count PySem.F.type_tuple_count mt_tcount (pe_fld (pv 0) rfl) (pa_cons (pv 2) pa_nil)) pa_nil))))) pa_nil))))), ?_⟩
    obtain ⟨dx, p, hx, hp⟩ := hx
    refine ⟨_, rfl, _, rfl, x, a.C_Answer, dx, _, _, rfl, hx, T.c_Answer, T.n_Answer_rows, lk_Answer_rows _, p, _, rfl, .inl hp.seq, ?_, fun q H1 nq s1 hq => ?_⟩
    · rw [List.append_nil, List.length_cons, List.length_map]
      exact sz_of (by omega)
    have e1 : (V.int (-1) :: (rs.map V.int ++ [])) = ((-1) :: rs).map V.int := by
      rw [List.append_nil, List.map_cons]
    rw [e1] at hq
    refine ⟨q, _, rfl, SqL.of hq, by simp, fun m hm hmax => ?_⟩
    refine ⟨_, _, rfl, rfl, ?_⟩
    have m0 : -1 ≤ m := hmax (-1) (List.mem_cons_self ..)
    have mr : ∀ c ∈ rs, c ≤ m := fun c hc => hmax c (List.mem_cons_of_mem _ hc)
    have m1 : m < 1000 := by
      rcases List.mem_cons.mp hm with e | e
      · omega
      · exact r1 m e
    have hx1 := s1 _ _ hx
    have hp1 := hp.keep s1
    refine ⟨_, rfl, _, rfl, by omega, by omega, fun D nD => ?_⟩
    refine lc_range (lo := 0) (fun i H2 => H2 D = some (.lst (((List.range i).map fun (j : Nat) => if ((rs.count (j : Int) : Nat) : Int) < 1 then ((rs.count (j : Int) : Nat) : Int) else 1).map V.int)) ∧ Same H1 H2)
      ⟨upd_same, Same.new nD⟩ ?_ ?_
    · rintro i H2 hi ⟨hD, s2⟩
      have hx2 := s2 _ _ hx1
      have hp2 := hp1.keep s2
      refine ⟨rfl, _, rfl, x, a.C_Answer, dx, _, _, rfl, hx2, T.c_Answer, T.n_Answer_rows, lk_Answer_rows _, ⟨p, _, rfl, hp2⟩, _, rfl, p, rs, _, rfl, rfl, hp2.seq, _, _, rfl, _, hD, ?_, ?_, fun q o e => ?_⟩
      · rw [List.length_map, List.length_map, List.length_range]
        exact sz_lt (by omega)
      · rw [upd_same, List.range_succ, List.map_append, List.map_append, Int.zero_add]
        rfl
      · rw [upd_ne (ne_of_none e nD)]
        exact s2 q o e
    rintro H2 ⟨hD, s2⟩
    generalize ecs : ((List.range (1 + m).toNat).map fun (j : Nat) => if ((rs.count (j : Int) : Nat) : Int) < 1 then ((rs.count (j : Int) : Nat) : Int) else 1) = cs at hD
    have c0 : ∀ c ∈ cs, 0 ≤ c ∧ c ≤ 1 := fun c hc => by
      rw [← ecs] at hc
      obtain ⟨i, _, rfl⟩ := List.mem_map.mp hc
      split <;> omega
    have cc : ∀ k, (rowsF 0 cs).count k = if rs.count k = 0 then 0 else 1 := fun k => by
      have := cs_count (f := fun k => if ((rs.count k : Nat) : Int) < 1 then ((rs.count k : Nat) : Int) else 1) m0 (fun k => by show 0 ≤ ite _ _ _; split <;> omega) (fun k h => by
        have h1 := cnt0 r0 mr h
        show ite _ _ _ = 0
        rw [h1]
        rfl) k
      rw [ecs] at this
      split at this <;> split <;> omega
    have lcs : cs.length ≤ 1000 := by
      rw [← ecs, List.length_map, List.length_range]
      omega
    have csum := sum_le_len cs fun c hc => (c0 c hc).2
    refine fun z dz nz ndz _ => ?_
    refine ⟨z, dz, D, cs, 3000, rfl, upd_same, (Same.make nz ndz).seq (SqL.of hD), fun c hc => (c0 c hc).1, .inl ⟨by omega, by omega, fun pv H3 bt3 hz3 hp3 => ⟨rfl, ?_⟩⟩⟩
    exact k z _ H3 (rows_up 0 cs) cc ((s1.trans s2).trans (made_same nz ndz bt3)) ⟨dz, pv, hz3, hp3⟩

end
end Toy

set_option Elab.async false
set_option linter.all false
set_option maxRecDepth 100000
set_option maxHeartbeats 4000000
set_option pp.maxSteps 1500
set_option pp.deepTerms false
namespace Toy
open PySem L2 Lf
section
variable {P : Program} {w : World} {K : PySem.W.Frag} {mg : Str → Option Value} {base : Heap} {a : Ad}

def spBag (K : PySem.W.Frag) : Sp := fun vs H Q _ => ∃ (s : Addr) (ns : List Int) (i : Nat), vs = [.ref s, .int i] ∧ SqL K H s (ns.map V.int) ∧ i < 64 ∧
  ∀ (b : Addr) (d m : Int) (H' : Hp), H b = none → Same H H' → H' b = some (.lst [.int d, .int m, .int 0]) → 0 ≤ d → 0 ≤ m → m < 2 ^ 62 → Q (.ref b) H'
theorem sc_l_bag : FnScope ["_law_script", "_law_at", "_law_cell", "_law_digits"] ["_law_script", "_law_at"] (defScope s_l_bag) := ⟨rfl, rfl, rfl, by decide +kernel, rfl, by decide +kernel, by decide +kernel⟩
theorem ok_l_bag (T : Txt K mg a) : FnOk P w K mg base CX0 1 a.f_l_bag a.d_l_bag ["_law_script", "_law_at"] (spBag K) := by
  refine T.F_l_bag.ok sc_l_bag (fun vs H Q E h => ?_) (fun cdv A outer s H vs Q E hr h => ?_)
  · obtain ⟨b, ns, i, rfl, _⟩ := h
    rfl
  · obtain ⟨b, ns, i, rfl, hS, hi, k⟩ := h
    refine ⟨_, (pss_cons (ps_set (i := 2) sc_l_bag.nd rfl (.inl rfl) (pe_ifExp (pt_cmpR op_lt (pv 1) (pe_callB call_len_seq (by rfl) T.b_len PySem.boot_len (pa_cons (pv 0) pa_nil)) (nomark _)) (pe_ix ix_list (pv 0) (pv 1) (fun _ _ => rfl)) pe_int))
      (pss_cons (ps_set (i := 3) sc_l_bag.nd rfl (.inl rfl) (pe_ifExp (pt_cmpR op_ge (pe_callB call_abs (by rfl) T.b_abs (by decide +kernel) (pa_cons (pv 2) pa_nil)) (pe_op op_pow pe_int pe_int) (nomark _)) (pe_callB call_abs (by rfl) T.b_abs (by decide +kernel) (pa_cons (pv 2) pa_nil)) pe_int))
      (pss_one (ps_ret (pe_lstS (pa_cons (pv 3) (pa_cons (pe_op op_add (pe_op op_add (pe_op op_mod (pe_callTy call_int1 (by rfl) T.b_int (by decide +kernel) (pa_cons (pv 2) pa_nil)) pe_int) (pe_op op_mul pe_int (pv 1))) pe_int) (pa_cons pe_int pa_nil)))))))), ?_⟩
    refine ⟨_, rfl, _, rfl, b, _, rfl, .inl hS, _, _, rfl, rfl, _, rfl, ?_⟩
    refine ite2 (fun h => ?_) (fun h => ?_)
    · have h1 : ((i : Nat) : Int) < ((ns.map V.int).length : Nat) := of_decide_eq_true h
      have h2 : i < ns.length := by rw [List.length_map] at h1; omega
      refine ⟨_, rfl, _, rfl, b, _, _, .int (ns[i]), rfl, rfl, hS, atI_nat (by rw [List.getElem?_map, List.getElem?_eq_getElem h2]; rfl), ?_⟩
      generalize ns[i] = c
      refine ⟨_, rfl, _, rfl, _, _, rfl, rfl, ⟨by decide, by decide, by decide⟩, _, _, rfl, rfl, _, rfl, ?_⟩
      refine ite2 (fun h => ?_) (fun h => ?_)
      · refine ⟨_, rfl, _, rfl, _, rfl, _, rfl, .inl ⟨_, rfl, _, _, rfl, rfl, (by show (0 : Int) < 999999999989; decide), _, rfl, _, _, rfl, rfl, .inl ⟨by decide, by decide⟩, _, _, rfl, rfl, _, _, rfl, rfl, (by show 3 ≤ sizeLine; decide), fun p H' hp sm hp' => ?_⟩⟩
        have e1 := Int.emod_nonneg c (show (999999999989 : Int) ≠ 0 by decide)
        have e2 := Int.emod_lt_of_pos c (show (0 : Int) < 999999999989 by decide)
        exact k p _ _ H' hp sm hp' (by split <;> omega) (by omega) (by omega)
      · refine ⟨_, rfl, _, rfl, .inl ⟨_, rfl, _, _, rfl, rfl, (by show (0 : Int) < 999999999989; decide), _, rfl, _, _, rfl, rfl, .inl ⟨by decide, by decide⟩, _, _, rfl, rfl, _, _, rfl, rfl, (by show 3 ≤ sizeLine; decide), fun p H' hp sm hp' => ?_⟩⟩
        have e1 := Int.emod_nonneg c (show (999999999989 : Int) ≠ 0 by decide)
        have e2 := Int.emod_lt_of_pos c (show (0 : Int) < 999999999989 by decide)
        exact k p _ _ H' hp sm hp' (by omega) (by omega) (by omega)
    · refine ⟨_, rfl, _, rfl, _, _, rfl, rfl, ⟨by decide, by decide, by decide⟩, _, _, rfl, rfl, _, rfl, ?_⟩
      refine ite2 (fun h => ?_) (fun h => ?_)
      · exact absurd (of_decide_eq_true h) (by decide)
      · refine ⟨_, rfl, _, rfl, .inl ⟨_, rfl, _, _, rfl, rfl, (by show (0 : Int) < 999999999989; decide), _, rfl, _, _, rfl, rfl, .inl ⟨by decide, by decide⟩, _, _, rfl, rfl, _, _, rfl, rfl, (by show 3 ≤ sizeLine; decide), fun p H' hp sm hp' => ?_⟩⟩
        exact k p _ _ H' hp sm hp' (by omega) (by omega) (by omega)

def BagAt (H : Hp) (b : Addr) (n : Nat) : Prop := ∃ d m c : Int, H b = some (.lst [.int d, .int m, .int c]) ∧ 0 ≤ d ∧ 0 ≤ m ∧ m < 2 ^ 62 ∧ 0 ≤ c ∧ c ≤ n
def spDraw : Sp := fun vs H Q _ => ∃ (b : Addr) (n : Nat) (many : Int), vs = [.ref b, .int many] ∧ BagAt H b n ∧ n < 2 ^ 30 ∧ 0 < many ∧ many < 2 ^ 30 ∧
  ∀ (r : Int) (H' : Hp), 0 ≤ r → r < many → BagAt H' b (n + 1) → But b H H' → Q (.int r) H'
theorem sc_l_draw : FnScope ["_law_bag_here", "_law_many", "_law_digit", "_law_mixed"] ["_law_bag_here", "_law_many"] (defScope s_l_draw) := ⟨rfl, rfl, rfl, by decide +kernel, rfl, by decide +kernel, by decide +kernel⟩
theorem ok_l_draw (T : Txt K mg a) : FnOk P w K mg base CX0 1 a.f_l_draw a.d_l_draw ["_law_bag_here", "_law_many"] spDraw := by
  refine T.F_l_draw.ok sc_l_draw (fun vs H Q E h => ?_) (fun cdv A outer s H vs Q E hr h => ?_)
  · obtain ⟨b, n, i, rfl, _⟩ := h
    rfl
  · obtain ⟨b, n, many, rfl, ⟨d, m, c, hb, d0, m0, m1, c0, c1⟩, hn, p0, p1, k⟩ := h
    refine ⟨_, (pss_cons (ps_if (pt_cmpR op_gt (pe_ix ix_list (pv 0) pe_int (fun _ _ => rfl)) pe_int (nomark _)) (pss_cons (ps_set (i := 2) sc_l_draw.nd rfl (.inl rfl) (pe_op op_mod (pe_callTy call_int1 (by rfl) T.b_int (by decide +kernel) (pa_cons (pe_ix ix_list (pv 0) pe_int (fun _ _ => rfl)) pa_nil)) (pv 1)))
      (pss_cons (ps_asg (pe_op op_fdiv (pe_ix ix_list (pv 0) pe_int (fun _ _ => rfl)) (pv 1)) (pg_sub (pv 0) pe_int set_list))
      (pss_one (ps_ret (pv 2))))) pss_nil)
      (pss_cons (ps_asg (pe_op op_add (pe_ix ix_list (pv 0) pe_int (fun _ _ => rfl)) pe_int) (pg_sub (pv 0) pe_int set_list))
      (pss_cons (ps_set (i := 3) sc_l_draw.nd rfl (.inl rfl) (pe_op op_mod (pe_callTy call_int1 (by rfl) T.b_int (by decide +kernel) (pa_cons (pe_op op_pow (pe_op op_add (pe_ix ix_list (pv 0) pe_int (fun _ _ => rfl)) (pe_op op_mul pe_int (pe_ix ix_list (pv 0) pe_int (fun _ _ => rfl)))) pe_int) pa_nil)) pe_int))
      (pss_cons (ps_set (i := 3) sc_l_draw.nd rfl (.inl rfl) (pe_op op_mod (pe_callTy call_int1 (by rfl) T.b_int (by decide +kernel) (pa_cons (pe_op op_pow (pe_op op_add (pv 3) (pe_op op_mul pe_int (pe_ix ix_list (pv 0) pe_int (fun _ _ => rfl)))) pe_int) pa_nil)) pe_int))
      (pss_one (ps_ret (pe_op op_mod (pe_callTy call_int1 (by rfl) T.b_int (by decide +kernel) (pa_cons (pe_op op_fdiv (pv 3) pe_int) pa_nil)) (pv 1)))))))), ?_⟩
    refine ⟨_, rfl, b, _, _, _, rfl, rfl, SqL.of hb, rfl, _, _, rfl, rfl, _, rfl, ?_⟩
    refine ite2 (fun h => ?_) (fun h => ?_)
    · have h1 : 0 < d := of_decide_eq_true h
      refine ⟨_, rfl, b, _, _, _, rfl, rfl, SqL.of hb, rfl, .inl ⟨_, rfl, _, rfl, _, _, rfl, rfl, p0, ?_⟩⟩
      refine ⟨_, rfl, b, _, _, _, rfl, rfl, SqL.of hb, rfl, _, rfl, _, _, rfl, rfl, ⟨p0, by omega⟩, ?_⟩
      refine ⟨_, rfl, b, _, _, _, rfl, rfl, hb, rfl, ?_⟩
      refine ⟨_, rfl, ?_⟩
      refine k _ _ (Int.emod_nonneg _ (by omega)) (Int.emod_lt_of_pos _ p0) ⟨d / many, m, c, upd_same, Int.ediv_nonneg d0 (by omega), m0, m1, c0, by omega⟩ But.upd
    · refine ⟨_, rfl, b, _, _, _, rfl, rfl, SqL.of hb, rfl, _, _, rfl, rfl, ?_⟩
      refine ⟨_, rfl, b, _, _, _, rfl, rfl, hb, rfl, ?_⟩
      have hb2 : (upd H b (.lst ([V.int d, V.int m, V.int c].set 2 (V.int (c + 1))))) b = some (.lst [.int d, .int m, .int (c + 1)]) := upd_same
      refine ⟨_, rfl, b, _, _, _, rfl, rfl, SqL.of hb2, rfl, _, rfl, b, _, _, _, rfl, rfl, SqL.of hb2, rfl, _, _, rfl, rfl, .inl ⟨by decide, by decide⟩, _, _, rfl, rfl, _, _, rfl, rfl, ⟨by decide, by decide, by omega⟩, .inl ⟨_, rfl, _, _, rfl, rfl, (by show (0 : Int) < 2147483629; decide), ?_⟩⟩
      generalize e : (m + 7368787 * (c + 1)) ^ Int.toNat 5 % 2147483629 = x
      have x0 : 0 ≤ x := by rw [← e]; exact Int.emod_nonneg _ (by decide)
      have x1 : x < 2147483629 := by rw [← e]; exact Int.emod_lt_of_pos _ (by decide)
      refine ⟨_, rfl, _, rfl, b, _, _, _, rfl, rfl, SqL.of hb2, rfl, _, _, rfl, rfl, .inl ⟨by decide, by decide⟩, _, _, rfl, rfl, _, _, rfl, rfl, ⟨by decide, by decide, by omega⟩, .inl ⟨_, rfl, _, _, rfl, rfl, (by show (0 : Int) < 1000000007; decide), ?_⟩⟩
      generalize e2 : (x + 15485863 * (c + 1)) ^ Int.toNat 3 % 1000000007 = y
      refine ⟨_, rfl, _, _, rfl, rfl, ⟨by decide, by decide⟩, .inl ⟨_, rfl, _, rfl, _, _, rfl, rfl, p0, ?_⟩⟩
      exact k _ _ (Int.emod_nonneg _ (by omega)) (Int.emod_lt_of_pos _ p0) ⟨d, m, c + 1, hb2, d0, m0, m1, by omega, by omega⟩ But.upd

/-- one of some values -/
def spOf (K : PySem.W.Frag) : Sp := fun vs H Q _ => ∃ (b l : Addr) (n : Nat) (xs : List V), vs = [.ref b, .ref l] ∧ BagAt H b n ∧ n < 2 ^ 30 ∧ SqL K H l xs ∧ l ≠ b ∧ xs ≠ [] ∧ xs.length < 2 ^ 30 ∧
  ∀ (x : V) (H' : Hp), x ∈ xs → BagAt H' b (n + 1) → But b H H' → Q x H'
theorem sc_l_of : FnScope ["_law_bag_here", "_law_some"] ["_law_bag_here", "_law_some"] (defScope s_l_of) := ⟨rfl, rfl, rfl, by decide +kernel, rfl, by decide +kernel, by decide +kernel⟩
theorem ok_l_of (T : Txt K mg a) : FnOk P w K mg base CX0 2 a.f_l_of a.d_l_of ["_law_bag_here", "_law_some"] (spOf K) := by
  refine T.F_l_of.ok sc_l_of (fun vs H Q E h => ?_) (fun cdv A outer s H vs Q E hr h => ?_)
  · obtain ⟨b, l, n, xs, rfl, _⟩ := h
    rfl
  · obtain ⟨b, l, n, xs, rfl, hb, hn, hl, hne, h0, h1, k⟩ := h
    have hx : 0 < xs.length := List.length_pos_iff.mpr h0
    refine ⟨_, (pss_one (ps_ret (pe_ix ix_list (pv 1) (pe_call (ok_l_draw T) (hr.mono (by decide)) rfl T.m_l_draw T.k_l_draw T.a_l_draw .nil pass0 (pa_cons (pv 0) (pa_cons (pe_callB call_len_seq (by rfl) T.b_len PySem.boot_len (pa_cons (pv 1) pa_nil)) pa_nil))) (fun _ _ => rfl)))), ?_⟩
    refine ⟨_, rfl, _, rfl, _, rfl, l, _, rfl, .inl hl, b, n, _, rfl, hb, hn, by omega, by omega, fun r H' r0 r1 hb' bt => ?_⟩
    obtain ⟨j, rfl⟩ : ∃ j : Nat, r = j := ⟨r.toNat, by omega⟩
    have hj : j < xs.length := by omega
    refine ⟨l, _, _, xs[j], rfl, rfl, bt.seq hne hl, atI_nat (List.getElem?_eq_getElem hj), ?_⟩
    exact k _ H' (List.getElem_mem hj) hb' bt

theorem BagAt.mono {H : Hp} {b : Addr} {m n : Nat} (h : BagAt H b m) (e : m ≤ n) : BagAt H b n := by
  obtain ⟨d, x, c, h1, h2, h3, h4, h5, h6⟩ := h
  exact ⟨d, x, c, h1, h2, h3, h4, h5, by omega⟩
theorem BagAt.keep {H H' : Hp} {b : Addr} {n : Nat} (h : BagAt H b n) (s : Same H H') : BagAt H' b n := by
  obtain ⟨d, x, c, h1, h2⟩ := h
  exact ⟨d, x, c, s _ _ h1, h2⟩
theorem BagAt.ne {H : Hp} {b p : Addr} {n : Nat} (h : BagAt H b n) (e : H p = none) : p ≠ b := by
  obtain ⟨d, x, c, h1, _⟩ := h
  exact (ne_of_none h1 e).symm
theorem BagAt.upd {H : Hp} {b p : Addr} {o : HO} {n : Nat} (h : BagAt H b n) (e : p ≠ b) : BagAt (upd H p o) b n := by
  obtain ⟨d, x, c, h1, h2⟩ := h
  exact ⟨d, x, c, by rw [upd_ne e.symm]; exact h1, h2⟩
theorem BagAt.lst {H : Hp} {b : Addr} {n : Nat} (h : BagAt H b n) : ∃ xs, H b = some (.lst xs) := by
  obtain ⟨d, x, c, h1, h2⟩ := h
  exact ⟨_, h1⟩
theorem sum_set : ∀ (xs : List Int) (i : Nat) (v c : Int), xs[i]? = some c → (xs.set i v).sum = xs.sum - c + v
  | x :: xs, 0, v, c, h => by
    cases h
    rw [List.set_cons_zero, List.sum_cons, List.sum_cons]
    omega
  | x :: xs, i + 1, v, c, h => by
    have := sum_set xs i v c (by simpa using h)
    rw [List.set_cons_succ, List.sum_cons, List.sum_cons]
    omega
theorem small_sum : ∀ (xs : List Int), (∀ c ∈ xs, 0 ≤ c ∧ c ≤ 3) → xs.sum ≤ 3 * xs.length
  | [], _ => by decide
  | x :: xs, h => by
    have h1 := h x (List.mem_cons_self ..)
    have h2 := small_sum xs fun c hc => h c (List.mem_cons_of_mem _ hc)
    rw [List.sum_cons, List.length_cons]
    omega
theorem ixN_nat {n j : Nat} (h : j < n) : ixN n (j : Int) = some j := by
  unfold ixN
  rw [if_pos (by omega), if_pos (by omega)]; simp
/-- a new list of counts -/
def spCounts : Sp := fun vs H Q _ => ∃ (b : Addr) (n : Nat), vs = [.ref b] ∧ BagAt H b n ∧ n < 2 ^ 28 ∧
  ∀ (l : Addr) (H' : Hp) (ns : List Int), H l = none → But b H H' → BagAt H' b (n + 23) → H' l = some (.lst (ns.map V.int)) → (∀ c ∈ ns, 0 ≤ c) → ns.sum ≤ 3000 → ns.length ≤ 20 → Q (.ref l) H'
theorem sc_l_counts : FnScope ["_law_bag_here", "_law_counts_here", "_law_turn", "_law_at"] ["_law_bag_here"] (defScope s_l_counts) := ⟨rfl, rfl, rfl, by decide +kernel, rfl, by decide +kernel, by decide +kernel⟩
theorem ok_l_counts (T : Txt K mg a) : FnOk P w K mg base CX0 3 a.f_l_counts a.d_l_counts ["_law_bag_here"] spCounts := by
  refine T.F_l_counts.ok sc_l_counts (fun vs H Q E h => ?_) (fun cdv A outer s H vs Q E hr h => ?_)
  · obtain ⟨b, n, rfl, _⟩ := h
    rfl
  · obtain ⟨b, n, rfl, hb, hn, k⟩ := h
    refine ⟨_, (pss_cons (ps_set (i := 1) sc_l_counts.nd rfl (.inl rfl) (pe_lstS pa_nil))
      (pss_cons (ps_for PassesOwn.never rfl (pi_range1 (by rfl) T.b_range (pa_cons (pe_call (ok_l_of T) (hr.mono (by decide)) rfl T.m_l_of T.k_l_of T.a_l_of .nil pass0 (pa_cons (pv 0) (pa_cons (pe_lstS (pa_cons pe_int (pa_cons pe_int (pa_cons pe_int (pa_cons pe_int (pa_cons pe_int (pa_cons pe_int pa_nil))))))) pa_nil))) pa_nil)) (pg_name (i := 2) sc_l_counts.nd rfl (.inl rfl))
      (pss_one (ps_expr (pe_bm PySem.F.plainAttrs_list PySem.F.slot_list_append PySem.F.type_list_append mt_append (pv 1) (pa_cons (pe_call (ok_l_of T) (hr.mono (by decide)) rfl T.m_l_of T.k_l_of T.a_l_of .nil pass0 (pa_cons (pv 0) (pa_cons (pe_lstS (pa_cons pe_int (pa_cons pe_int (pa_cons pe_int (pa_cons pe_int (pa_cons pe_int (pa_cons pe_int pa_nil))))))) pa_nil))) pa_nil)))))
      (pss_cons (ps_if (PW.pt (pw_and (pt_cmpR (op_neIL hr.units) (pv 1) (pe_lstS pa_nil) (nomark _)) (pw_and1 (pt_cmpR op_eq (pe_call (ok_l_draw T) (hr.mono (by decide)) rfl T.m_l_draw T.k_l_draw T.a_l_draw .nil pass0 (pa_cons (pv 0) (pa_cons pe_int pa_nil))) pe_int (nomark _))))) (pss_cons (ps_set (i := 3) sc_l_counts.nd rfl (.inl rfl) (pe_call (ok_l_draw T) (hr.mono (by decide)) rfl T.m_l_draw T.k_l_draw T.a_l_draw .nil pass0 (pa_cons (pv 0) (pa_cons (pe_callB call_len_seq (by rfl) T.b_len PySem.boot_len (pa_cons (pv 1) pa_nil)) pa_nil))))
      (pss_one (ps_asg (pe_op op_add (pe_op op_sub pe_int (pe_callB (cr_sum rfl) (by rfl) T.b_sum (by decide +kernel) (pa_cons (pv 1) pa_nil))) (pe_ix ix_list (pv 1) (pv 3) (fun _ _ => rfl))) (pg_sub (pv 1) (pv 3) set_list)))) pss_nil)
      (pss_one (ps_ret (pv 1)))))), ?_⟩
    refine ⟨(by show 0 ≤ sizeLine; decide), fun D H1 nD s1 hD => ?_⟩
    have nDb : D ≠ b := hb.ne nD
    refine ⟨_, rfl, (by show 6 ≤ sizeLine; decide), fun p H2 np s2 hp => ?_⟩
    have hb2 := (hb.keep s1).keep s2
    refine ⟨b, p, n, _, rfl, hb2, by omega, SqL.of hp, (hb.keep s1).ne np, by simp, by show 6 < _; decide, fun x H3 hx hb3 bt3 => ?_⟩
    obtain ⟨j, rfl, j8⟩ : ∃ j : Nat, x = .int j ∧ j ≤ 20 := by
      simp only [List.mem_cons, List.not_mem_nil, or_false] at hx
      rcases hx with rfl | rfl | rfl | rfl | rfl | rfl
      · exact ⟨0, rfl, by decide⟩
      · exact ⟨1, rfl, by decide⟩
      · exact ⟨2, rfl, by decide⟩
      · exact ⟨5, rfl, by decide⟩
      · exact ⟨9, rfl, by decide⟩
      · exact ⟨20, rfl, by decide⟩
    have bt : But b H H3 := (But.of (s1.trans s2)).trans bt3
    refine ⟨_, rfl, by omega, by omega, for_range (n := j) (fun i σ H' => ∃ (ns : List Int) (v2 : Option V), σ = [some (.ref b), some (.ref D), v2, none] ∧ H' D = some (.lst (ns.map V.int)) ∧ ns.length = i ∧ (∀ c ∈ ns, 0 ≤ c ∧ c ≤ 3) ∧ BagAt H' b (n + 1 + i) ∧ But b H H')
      ⟨[], none, rfl, bt3 _ _ (s2 _ _ hD) nDb, rfl, fun c hc => (by cases hc), hb3, bt⟩ ?_ ?_⟩
    · rintro i σ H' hi ⟨ns, v2, rfl, hD', hl, h03, hb', bt'⟩
      refine ⟨_, rfl, .inl ⟨rfl, _, SqL.of hD'⟩, _, rfl, (by show 6 ≤ sizeLine; decide), fun q H4 nq s4 hq => ?_⟩
      refine ⟨b, q, n + 1 + i, _, rfl, hb'.keep s4, by omega, SqL.of hq, hb'.ne nq, by simp, by show 6 < _; decide, fun y H5 hy hb5 bt5 => ?_⟩
      obtain ⟨c, rfl, c0, c3⟩ : ∃ c : Int, y = .int c ∧ 0 ≤ c ∧ c ≤ 3 := by
        simp only [List.mem_cons, List.not_mem_nil, or_false] at hy
        rcases hy with rfl | rfl | rfl | rfl | rfl | rfl
        all_goals exact ⟨_, rfl, by decide, by decide⟩
      have hD5 := bt5 _ _ (s4 _ _ hD') nDb
      refine ⟨D, _, _, rfl, rfl, hD5, (by rw [List.length_map]; exact sz_lt (by omega)), ns ++ [c], _, rfl, ?_, by rw [List.length_append, hl]; rfl, ?_, hb5.upd nDb, ?_⟩
      · rw [upd_same, List.map_append]; rfl
      · intro z hz
        rcases List.mem_append.mp hz with hz | hz
        · exact h03 z hz
        · rw [List.mem_singleton.mp hz]; exact ⟨c0, c3⟩
      · intro q2 o e hq2
        have nq2 : q2 ≠ D := ne_of_none e nD
        rw [upd_ne nq2]
        exact bt5 q2 o (s4 q2 o (bt' q2 o e hq2)) hq2
    · rintro σ H' ⟨ns, v2, rfl, hD', hl, h03, hb', bt'⟩
      have hs := small_sum ns h03
      have h0 : ∀ c ∈ ns, 0 ≤ c := fun c hc => (h03 c hc).1
      refine ⟨_, rfl, (by show 0 ≤ sizeLine; decide), fun q H4 nq s4 hq => ?_⟩
      have hD4 := s4 _ _ hD'
      refine ⟨D, q, ns, [], rfl, rfl, SqL.of hD4, SqL.of hq, _, rfl, ?_⟩
      refine ite2 (fun hne => ?_) (fun _ => ?_)
      · have hpos : 0 < ns.length := by
          rcases Nat.eq_zero_or_pos ns.length with e | e
          · rw [List.length_eq_zero_iff.mp e] at hne
            cases hne
          · exact e
        have hb4 := hb'.keep s4
        refine ⟨_, rfl, b, _, 6, rfl, hb4, by omega, by decide, by decide, fun r H5 r0 r1 hb5 bt5 => ?_⟩
        have hD5 := bt5 _ _ hD4 nDb
        refine ⟨rfl, _, rfl, ?_⟩
        refine ite2 (fun _ => ?_) (fun _ => ?_)
        · refine ⟨_, rfl, _, rfl, D, _, rfl, .inl (SqL.of hD5), b, _, _, rfl, hb5, by omega, (by rw [List.length_map]; omega), (by rw [List.length_map]; omega), fun m H6 m0 m1 hb6 bt6 => ?_⟩
          rw [List.length_map] at m1
          have hD6 := bt6 _ _ hD5 nDb
          obtain ⟨m', rfl⟩ : ∃ m' : Nat, m = m' := ⟨m.toNat, by omega⟩
          have hm : m' < ns.length := by omega
          have hc := h03 ns[m'] (List.getElem_mem hm)
          refine ⟨_, rfl, D, ns, rfl, SqL.of hD6, _, _, rfl, rfl, _, rfl, _, rfl, D, _, _, .int ns[m'], rfl, rfl, SqL.of hD6, atI_nat (by rw [List.getElem?_map, List.getElem?_eq_getElem hm]; rfl), _, _, rfl, rfl, ?_⟩
          refine ⟨_, rfl, _, rfl, D, _, _, m', rfl, rfl, hD6, ixN_nat (by rw [List.length_map]; exact hm), ?_⟩
          generalize hv : (3000 - ns.sum + ns[m'] : Int) = v
          have hsum := sum_set ns m' v ns[m'] (List.getElem?_eq_getElem hm)
          have hnn : 0 ≤ ns.sum := sum_nonneg ns h0
          refine ⟨_, rfl, k D _ (ns.set m' v) nD ?_ ?_ ?_ ?_ ?_ ?_⟩
          · intro q2 o e hq2
            rw [upd_ne (ne_of_none e nD)]
            exact bt6 q2 o (bt5 q2 o (s4 q2 o (bt' q2 o e hq2)) hq2) hq2
          · exact (hb6.upd nDb).mono (by omega)
          · subst hv
            rw [upd_same, List.map_set]
          · intro c hc2
            rcases List.mem_or_eq_of_mem_set hc2 with h | h
            · exact h0 c h
            · omega
          · omega
          · rw [List.length_set]; omega
        · exact ⟨_, rfl, k D H5 ns nD (bt'.trans ((But.of s4).trans bt5)) (hb5.mono (by omega)) hD5 h0 (by omega) (by omega)⟩
      · exact ⟨_, rfl, k D H4 ns nD (bt'.trans (But.of s4)) ((hb'.keep s4).mono (by omega)) hD4 h0 (by omega) (by omega)⟩

/-- the law's own list of places -/
def spRows (K : PySem.W.Frag) : Sp := fun vs H Q _ => ∃ (l : Addr) (ns : List Int), vs = [.ref l] ∧ SqL K H l (ns.map V.int) ∧ (∀ c ∈ ns, 0 ≤ c) ∧ ns.sum ≤ 50000 ∧ ns.length ≤ 1000 ∧
  ∀ p H', H p = none → Same H H' → H' p = some (.lst ((rowsF 0 ns).map V.int)) → Q (.ref p) H'
theorem sc_l_rows : FnScope ["_law_counts_here", "_law_found", "_law_at"] ["_law_counts_here"] (defScope s_l_rows) := ⟨rfl, rfl, rfl, by decide +kernel, rfl, by decide +kernel, by decide +kernel⟩
theorem ok_l_rows (T : Txt K mg a) : FnOk P w K mg base CX0 1 a.f_l_rows a.d_l_rows ["_law_counts_here"] (spRows K) := by
  refine T.F_l_rows.ok sc_l_rows (fun vs H Q E h => ?_) (fun cdv A outer s H vs Q E hr h => ?_)
  · obtain ⟨l, ns, rfl, _⟩ := h
    rfl
  · obtain ⟨l, ns, rfl, hl, h0, hs, hlen, k⟩ := h
    refine ⟨_, (pss_cons (ps_set (i := 1) sc_l_rows.nd rfl (.inl rfl) (pe_lstS pa_nil))
      (pss_cons (ps_for PassesOwn.never rfl (pi_range1 (by rfl) T.b_range (pa_cons (pe_callB call_len_seq (by rfl) T.b_len PySem.boot_len (pa_cons (pv 0) pa_nil)) pa_nil)) (pg_name (i := 2) sc_l_rows.nd rfl (.inl rfl))
      (pss_one (ps_set (i := 1) sc_l_rows.nd rfl (.inl rfl) (pe_op op_catS (pv 1) (pe_op op_repS (pe_lstS (pa_cons (pv 2) pa_nil)) (pe_ix ix_list (pv 0) (pv 2) (fun _ _ => rfl)))))))
      (pss_one (ps_ret (pv 1))))), ?_⟩
    refine ⟨(by show 0 ≤ sizeLine; decide), fun D H1 nD s1 hD => ?_⟩
    refine ⟨_, rfl, l, _, rfl, .inl (s1.seq hl), _, rfl, by omega, (by rw [List.length_map]; omega), for_range (fun i σ H' => ∃ (D : Addr) (v2 : Option V), σ = [some (.ref l), some (.ref D), v2] ∧ H D = none ∧ H' D = some (.lst ((rowsF 0 (ns.take i)).map V.int)) ∧ Same H H')
      ⟨D, _, rfl, nD, hD, s1⟩ ?_ ?_⟩
    · rintro i σ H2 hi0 ⟨D2, v2, rfl, nD2, hD2, z⟩
      have hi : i < ns.length := by rw [List.length_map] at hi0; omega
      have hc := List.getElem?_eq_getElem hi
      have hc0 : 0 ≤ ns[i] := h0 _ (List.getElem_mem hi)
      have hcs : ns[i] ≤ ns.sum := le_sum ns _ h0 (List.getElem_mem hi)
      generalize ns[i] = c at hc hc0 hcs
      refine ⟨_, rfl, _, rfl, (by show 1 ≤ sizeLine; decide), fun q H4 nq s4 hq => ?_⟩
      refine ⟨_, rfl, _, rfl, l, _, _, .int c, rfl, rfl, (z.trans s4).seq hl, (by rw [Int.zero_add]; exact atI_nat (by rw [List.getElem?_map, hc]; rfl)), ?_⟩
      refine ⟨q, _, _, rfl, rfl, hq, by omega, by omega, ?_, fun r H5 nr s5 hr5 => ?_⟩
      · show 1 * c.toNat ≤ sizeLine
        exact sz_of (by omega)
      · have e3 : (List.replicate c.toNat [V.int (0 + (i : Nat))]).flatten = (List.replicate c.toNat (i : Int)).map V.int := by rw [flat1, List.map_replicate, Int.zero_add]
        rw [e3] at hr5
        have hln : (((rowsF 0 (ns.take i)).length : Nat) : Int) ≤ ns.sum := by
          rw [rowsF_len 0 _ (mem_nonneg_take h0)]
          exact take_sum_le ns i h0
        refine ⟨D2, r, _, _, rfl, rfl, s5 _ _ (s4 _ _ hD2), hr5, ?_, fun t H6 nt s6 ht => ?_⟩
        · rw [List.length_map, List.length_map, List.length_replicate]
          exact sz_of (by omega)
        · refine ⟨t, _, rfl, z.free (s4.free (s5.free nt)), ?_, ((z.trans s4).trans s5).trans s6⟩
          rw [ht, rowsF_take hc, List.map_append]
    · rintro σ H2 ⟨D2, v2, rfl, nD2, hD2, z⟩
      rw [List.length_map, Int.toNat_natCast, List.take_length] at hD2
      exact ⟨_, rfl, k D2 H2 nD2 z hD2⟩

end
end Toy

set_option Elab.async false
set_option linter.all false
set_option maxRecDepth 100000
set_option maxHeartbeats 4000000
set_option pp.maxSteps 1500
set_option pp.deepTerms false
namespace Toy
open PySem L2 Lf
section
variable {P : Program} {w : World} {K : PySem.W.Frag} {mg : Str → Option Value} {base : Heap} {a : Ad}

def spRef (K : PySem.W.Frag) : Sp := fun vs H Q _ => ∃ (l : Addr) (ns : List Int), vs = [.ref l] ∧ SqL K H l (ns.map V.int) ∧ (∀ c ∈ ns, 0 ≤ c) ∧ 3000 < ns.sum ∧ ∀ H', Same H H' → Q (.bl true) H'
theorem sc_l_refused : FnScope ["_law_counts_here", "e", "_law_is_right"] ["_law_counts_here"] (defScope s_l_refused) := ⟨rfl, rfl, rfl, by decide +kernel, rfl, by decide +kernel, by decide +kernel⟩
theorem ok_l_refused (T : Txt K mg a) : FnOk P w K mg base CX0 5 a.f_l_refused a.d_l_refused ["_law_counts_here"] (spRef K) := by
  refine T.F_l_refused.ok sc_l_refused (fun vs H Q E h => ?_) (fun cdv A outer s H vs Q E hr h => ?_)
  · obtain ⟨l, ns, rfl, _⟩ := h
    rfl
  · obtain ⟨l, ns, rfl, hl, h0, hs, k⟩ := h
    obtain ⟨kv_Answer__init, kb_Answer__init⟩ := T.kb_Answer__init
    obtain ⟨ds_Answer__init, vd_Answer__init, bd_Answer__init⟩ := T.a_Answer__init
    refine ⟨_, (pss_cons (ps_try_as (i := 1) (tb := fun W => tDrop (tMakeAt a.C_Answer (fun vs H Q E => spAInit K a (vs ++ [.int 3000]) H Q E) (WE W) (tCons (tVar 0) tNil))) (ts := fun e cls d => tSeq (tAsg (tAndV (tCB (rIsX K e cls d) (tCons (tVar 1) (tCons (tC (.ref a.C_LinkedError)) tNil))) (tAndV (tCB (rIsX K e cls d) (tCons (tVar 1) (tCons (tC (.ty "ValueError")) tNil))) (tNotV (tCB (rIsX K e cls d) (tCons (tVar 1) (tCons (tC (.ref a.C_BadRow)) tNil)))))) (gName 2)) (tRet (tAndV (tVar 2) (tOp rEq (tXf e cls d a.C_TooMany "what" (tVar 1)) (tC (.str "rows")))))) (Wout := fun _ _ _ _ => False) rfl rfl sc_l_refused.nd rfl rfl ⟨rfl, by decide, .inl T.m_TooMany⟩ takes0
      (fun W pn xe tk _ => pss_one (ps_expr (pe_makeAt T.mk_Answer ((ok_Answer__init T).raw bd_Answer__init vd_Answer__init) (hr.mono (by decide)) rfl T.m_Answer (fun σ => passAt tk σ) (pa_cons (pv 0) pa_nil))))
      (fun e oe cls d pn hz hf => pss_cons (ps_set (i := 2) sc_l_refused.nd rfl (.inl rfl) (pe_and (pe_callB (call_isX hz hf) (by rfl) T.b_isinstance (by decide +kernel) (pa_cons (pv 1) (pa_cons (pe_glob (v := .ref a.C_LinkedError) rfl T.m_LinkedError rfl) pa_nil))) (pe_and (pe_callB (call_isX hz hf) (by rfl) T.b_isinstance (by decide +kernel) (pa_cons (pv 1) (pa_cons (pe_bltn (v := .ty "ValueError") (by rfl) T.b_ValueError (by decide +kernel) rfl) pa_nil))) (pe_one (pe_not (pe_callB (call_isX hz hf) (by rfl) T.b_isinstance (by decide +kernel) (pa_cons (pv 1) (pa_cons (pe_glob (v := .ref a.C_BadRow) rfl T.m_BadRow rfl) pa_nil)))))))) (pss_one (ps_ret (pe_and (pv 2) (pe_one (pe_cmpR op_eq (pe_xf T.e_TooMany.xf T.n_TooMany_what hz hf (pv 1)) pe_str (nomark _))))))))
      (pss_one (ps_ret pe_bl))), ?_⟩
    refine ⟨_, rfl, fun x dx nx nd _ => ⟨x, dx, l, ns, 3000, rfl, upd_same, (Same.make nx nd).seq hl, h0, .inr ⟨hs, fun d H' nd' s' hd => ?_⟩⟩⟩
    have sA : Same H H' := (Same.make nx nd).trans s'
    refine ⟨true, T.e_TooMany.ex (sub_self T.e_TooMany), fun _ e he => ?_, fun q => nomatch q⟩
    refine ⟨_, rfl, a.C_TooMany, d, _, _, _, true, rfl, rfl, rfl, hd, T.e_TooMany, fun u r => r, T.ks_TooMany_LinkedError, _, rfl, iteT ?_⟩
    refine ⟨_, rfl, a.C_TooMany, d, _, _, _, true, rfl, rfl, rfl, hd, T.e_TooMany, fun u r => r, T.ks_TooMany_VE, _, rfl, iteT ?_⟩
    refine ⟨_, rfl, a.C_TooMany, d, _, _, _, false, rfl, rfl, rfl, hd, T.e_TooMany, fun u r => r, T.ks_TooMany_BadRow, _, rfl, ?_⟩
    refine ⟨_, rfl, _, rfl, iteT ?_⟩
    refine ⟨_, rfl, rfl, rfl, d, _, .str "rows", rfl, hd, lk0, rfl, ?_⟩
    rw [decide_eq_true rfl]
    exact k H' sA

def spIs (K : PySem.W.Frag) (a : Ad) : Sp := fun vs H Q _ => ∃ (x l : Addr) (rs : List Int), vs = [.ref x, .ref l] ∧ AnsAt a H x rs ∧ SqL K H l (rs.map V.int) ∧ rs.length ≤ 100000 ∧ ∀ H', Same H H' → Q (.bl true) H'
theorem sc_l_is : FnScope ["_law_told", "_law_rows_here"] ["_law_told", "_law_rows_here"] (defScope s_l_is) := ⟨rfl, rfl, rfl, by decide +kernel, rfl, by decide +kernel, by decide +kernel⟩
theorem ok_l_is (T : Txt K mg a) : FnOk P w K mg base CX0 3 a.f_l_is a.d_l_is ["_law_told", "_law_rows_here"] (spIs K a) := by
  refine T.F_l_is.ok sc_l_is (fun vs H Q E h => ?_) (fun cdv A outer s H vs Q E hr h => ?_)
  · obtain ⟨x, l, rs, rfl, _⟩ := h
    rfl
  · obtain ⟨x, l, rs, rfl, hx, hl, hn, k⟩ := h
    refine ⟨_, (pss_one (ps_ret (pe_and (pe_callB call_isi (by rfl) T.b_isinstance (by decide +kernel) (pa_cons (pe_fld (pv 0) rfl) (pa_cons (pe_bltn (v := .ty "tuple") (by rfl) T.b_tuple (by decide +kernel) rfl) pa_nil))) (pe_and (pe_cmpR (op_eqIL hr.units) (pe_callTy call_list_ofS (by rfl) T.b_list (by decide +kernel) (pa_cons (pe_fld (pv 0) rfl) pa_nil)) (pv 1) (nomark _)) (pe_one (pe_cmpR op_eq (pe_callB (call_lenOwn (C := a.C_Answer) T.f_Answer__len T.i_Answer__len ((ok_Answer__len T).raw T.a_Answer__len .nil) (hr.mono (by decide)) pass0) (by rfl) T.b_len PySem.boot_len (pa_cons (pv 0) pa_nil)) (pe_callB call_len_seq (by rfl) T.b_len PySem.boot_len (pa_cons (pv 1) pa_nil)) (nomark _))))))), ?_⟩
    obtain ⟨dx, p, h1, h2⟩ := id hx
    refine ⟨_, rfl, x, a.C_Answer, dx, _, _, rfl, h1, T.c_Answer, T.n_Answer_rows, lk_Answer_rows _, _, _, _, _, true, rfl, .ty _, h2.ty, kit_ty (by decide +kernel), _, rfl, iteT ?_⟩
    refine ⟨_, rfl, x, a.C_Answer, dx, _, _, rfl, h1, T.c_Answer, T.n_Answer_rows, lk_Answer_rows _, p, _, rfl, .inr h2.seq, fun q H1 nq s1 hq => ?_⟩
    refine ⟨_, rfl, q, l, rs, rs, rfl, rfl, SqL.of hq, s1.seq hl, _, rfl, ?_⟩
    rw [decide_eq_true rfl]
    refine iteT ?_
    refine ⟨_, rfl, x, dx, _, rfl, s1 _ _ h1, x, rs, rfl, hx.keep s1, _, rfl, by omega, by omega, ?_⟩
    refine ⟨_, rfl, l, _, rfl, .inl (s1.seq hl), rfl, ?_⟩
    rw [List.length_map, decide_eq_true rfl]
    exact k H1 s1

end
end Toy

set_option Elab.async false
set_option linter.all false
set_option maxRecDepth 100000
set_option maxHeartbeats 4000000
set_option pp.maxSteps 1500
set_option pp.deepTerms false
namespace Toy
open PySem L2 Lf
section
variable {P : Program} {w : World} {K : PySem.W.Frag} {mg : Str → Option Value} {base : Heap} {a : Ad}

theorem rows_lt (k : Nat) : ∀ (cs : List Int), ∀ i ∈ rowsF k cs, i < k + cs.length := by
  intro cs
  induction cs generalizing k with
  | nil => intro i hi; cases hi
  | cons c cs ih =>
    intro i hi
    rw [List.length_cons]
    rcases List.mem_append.mp (show i ∈ List.replicate c.toNat (k : Int) ++ rowsF (k + 1) cs from hi) with h | h
    · rw [(List.mem_replicate.mp h).2]
      omega
    · have := ih (k + 1) i h
      omega
theorem srt {ys zs xs : List Int} (p : ys.Perm xs) (u : ys.Pairwise (· ≤ ·)) (v : zs.Pairwise (· ≤ ·)) (c : ∀ k, zs.count k = xs.count k) : ys = zs := up_eq u v fun k => by rw [p.count_eq, c]
theorem srt_set {ss zs xs : List Int} (r : ss.Pairwise (· < ·)) (m : ∀ k, k ∈ ss ↔ k ∈ xs) (v : zs.Pairwise (· ≤ ·)) (c : ∀ k, zs.count k = if xs.count k = 0 then 0 else 1) : ss = zs := by
  refine up_eq (r.imp fun h => Int.le_of_lt h) v fun k => ?_
  rw [c]
  by_cases h : k ∈ xs
  · rw [if_neg (by have := List.count_pos_iff.mpr h; omega)]
    have nd : ss.Nodup := r.imp fun h => Int.ne_of_lt h
    have h1 := List.count_pos_iff.mpr ((m k).mpr h)
    have h2 := List.nodup_iff_count.mp nd k
    omega
  · rw [if_pos (List.count_eq_zero.mpr h), List.count_eq_zero.mpr fun z => h ((m k).mp z)]
theorem cnt_mem {zs rs ss : List Int} (c : ∀ k, zs.count k = rs.count k + ss.count k) {k : Int} (h : k ∈ zs) : k ∈ rs ∨ k ∈ ss := by
  have h1 := List.count_pos_iff.mpr h
  rw [c] at h1
  by_cases e : 0 < rs.count k
  · exact .inl (List.count_pos_iff.mp e)
  · exact .inr (List.count_pos_iff.mp (by omega))
theorem mem_cnt {zs rs ss : List Int} (c : ∀ k, zs.count k = rs.count k + ss.count k) (k : Int) : k ∈ zs ↔ k ∈ rs ++ ss := by
  rw [List.mem_append]
  constructor
  · exact cnt_mem c
  · intro h
    apply List.count_pos_iff.mp
    rw [c]
    rcases h with h | h
    · have := List.count_pos_iff.mpr h
      omega
    · have := List.count_pos_iff.mpr h
      omega
def spRight : Sp := fun vs H Q _ => ∃ (b : Addr) (n : Nat), vs = [.ref b] ∧ BagAt H b n ∧ n < 2 ^ 27 ∧ ∀ (H' : Hp), But b H H' → Q (.bl true) H'
theorem sc_l_right : FnScope ["_law_bag_here", "_law_one", "_law_other", "_law_rows_here", "_law_more", "_law_first", "_law_second", "_law_both", "_law_at", "_law_gap"] ["_law_bag_here"] (defScope s_l_right) := ⟨rfl, rfl, rfl, by decide +kernel, rfl, by decide +kernel, by decide +kernel⟩
theorem ok_l_right (T : Txt K mg a) : FnOk P w K mg base CX0 6 a.f_l_right a.d_l_right ["_law_bag_here"] spRight := by
  refine T.F_l_right.ok sc_l_right (fun vs H Q E h => ?_) (fun cdv A outer s H vs Q E hr h => ?_)
  · obtain ⟨b, n, rfl, _⟩ := h
    rfl
  · obtain ⟨b, n, rfl, hb, hn, k⟩ := h
    obtain ⟨kv_Answer__init, kb_Answer__init⟩ := T.kb_Answer__init
    obtain ⟨ds_Answer__init, vd_Answer__init, bd_Answer__init⟩ := T.a_Answer__init
    refine ⟨_, (pss_cons (ps_par (i := 1) (j := 2) (by rfl) sc_l_right.nd rfl rfl (by decide) rfl rfl (pa_cons (pe_call (ok_l_counts T) (hr.mono (by decide)) rfl T.m_l_counts T.k_l_counts T.a_l_counts .nil pass0 (pa_cons (pv 0) pa_nil)) (pa_cons (pe_call (ok_l_counts T) (hr.mono (by decide)) rfl T.m_l_counts T.k_l_counts T.a_l_counts .nil pass0 (pa_cons (pv 0) pa_nil)) pa_nil)) (by rfl))
      (pss_cons (ps_par (i := 3) (j := 4) (by rfl) sc_l_right.nd rfl rfl (by decide) rfl rfl (pa_cons (pe_call (ok_l_rows T) (hr.mono (by decide)) rfl T.m_l_rows T.k_l_rows T.a_l_rows .nil pass0 (pa_cons (pv 1) pa_nil)) (pa_cons (pe_call (ok_l_rows T) (hr.mono (by decide)) rfl T.m_l_rows T.k_l_rows T.a_l_rows .nil pass0 (pa_cons (pv 2) pa_nil)) pa_nil)) (by rfl))
      (pss_cons (ps_par (i := 5) (j := 6) (by rfl) sc_l_right.nd rfl rfl (by decide) rfl rfl (pa_cons (pe_make T.mk_Answer (ok_Answer__init T) (hr.mono (by decide)) rfl T.m_Answer bd_Answer__init vd_Answer__init passL (pa_cons (pe_callTy call_list_ofS (by rfl) T.b_list (by decide +kernel) (pa_cons (pv 1) pa_nil)) pa_nil)) (pa_cons (pe_make T.mk_Answer (ok_Answer__init T) (hr.mono (by decide)) rfl T.m_Answer bd_Answer__init vd_Answer__init passL (pa_cons (pe_callTy call_list_ofS (by rfl) T.b_list (by decide +kernel) (pa_cons (pv 2) pa_nil)) pa_nil)) pa_nil)) (by rfl))
      (pss_cons (ps_set (i := 7) sc_l_right.nd rfl (.inl rfl) (pe_op (op_ownBin (C := a.C_Answer) T.sf_Answer T.f_Answer__add T.i_Answer__add ((ok_Answer__add T).raw T.a_Answer__add .nil) (hr.mono (by decide)) pass0) (pv 5) (pv 6)))
      (pss_cons (ps_if (PW.pt (pw_or (pt_not (pt_val (pe_call (ok_l_is T) (hr.mono (by decide)) rfl T.m_l_is T.k_l_is T.a_l_is .nil pass0 (pa_cons (pv 7) (pa_cons (pe_callB cr_sortedIS (by rfl) T.b_sorted (by decide +kernel) (pa_cons (pe_op op_catS (pv 3) (pv 4)) pa_nil)) pa_nil))))) (pw_or1 (pt_not (pt_val (pe_call (ok_l_is T) (hr.mono (by decide)) rfl T.m_l_is T.k_l_is T.a_l_is .nil pass0 (pa_cons (pe_op (op_ownBin (C := a.C_Answer) T.sf_Answer T.f_Answer__add T.i_Answer__add ((ok_Answer__add T).raw T.a_Answer__add .nil) (hr.mono (by decide)) pass0) (pv 6) (pv 5)) (pa_cons (pe_callB cr_sortedIS (by rfl) T.b_sorted (by decide +kernel) (pa_cons (pe_op op_catS (pv 3) (pv 4)) pa_nil)) pa_nil)))))))) (pss_one (ps_ret pe_bl)) pss_nil)
      (pss_cons (ps_if (PW.pt (pw_or (pt_not (pt_val (pe_call (ok_l_is T) (hr.mono (by decide)) rfl T.m_l_is T.k_l_is T.a_l_is .nil pass0 (pa_cons (pe_op (op_ownBin (C := a.C_Answer) T.sf_Answer T.f_Answer__add T.i_Answer__add ((ok_Answer__add T).raw T.a_Answer__add .nil) (hr.mono (by decide)) pass0) (pv 5) (pv 5)) (pa_cons (pe_callB cr_sortedIS (by rfl) T.b_sorted (by decide +kernel) (pa_cons (pe_op op_catS (pv 3) (pv 3)) pa_nil)) pa_nil))))) (pw_or1 (pt_not (pt_val (pe_call (ok_l_is T) (hr.mono (by decide)) rfl T.m_l_is T.k_l_is T.a_l_is .nil pass0 (pa_cons (pe_op (op_ownBin (C := a.C_Answer) T.sf_Answer T.f_Answer__add T.i_Answer__add ((ok_Answer__add T).raw T.a_Answer__add .nil) (hr.mono (by decide)) pass0) (pv 7) (pv 5)) (pa_cons (pe_callB cr_sortedIS (by rfl) T.b_sorted (by decide +kernel) (pa_cons (pe_op op_catS (pe_op op_catS (pv 3) (pv 3)) (pv 4)) pa_nil)) pa_nil)))))))) (pss_one (ps_ret pe_bl)) pss_nil)
      (pss_cons (ps_if (PW.pt (pw_or (pt_not (pt_val (pe_call (ok_l_is T) (hr.mono (by decide)) rfl T.m_l_is T.k_l_is T.a_l_is .nil pass0 (pa_cons (pv 5) (pa_cons (pv 3) pa_nil))))) (pw_or (pt_not (pt_val (pe_call (ok_l_is T) (hr.mono (by decide)) rfl T.m_l_is T.k_l_is T.a_l_is .nil pass0 (pa_cons (pv 6) (pa_cons (pv 4) pa_nil))))) (pw_or1 (pt_not (pt_val (pe_call (ok_l_is T) (hr.mono (by decide)) rfl T.m_l_is T.k_l_is T.a_l_is .nil pass0 (pa_cons (pv 7) (pa_cons (pe_callB cr_sortedIS (by rfl) T.b_sorted (by decide +kernel) (pa_cons (pe_op op_catS (pv 3) (pv 4)) pa_nil)) pa_nil))))))))) (pss_one (ps_ret pe_bl)) pss_nil)
      (pss_cons (ps_if (PW.pt (pw_or (pt_not (pt_val (pe_call (ok_l_is T) (hr.mono (by decide)) rfl T.m_l_is T.k_l_is T.a_l_is .nil pass0 (pa_cons (pe_meth0 (pv 5) T.c_Answer T.t_Answer_distinct (ok_Answer_distinct T) (hr.mono (by decide)) T.a_Answer_distinct .nil pass0 ) (pa_cons (pe_callB (cr_sortedSetA rfl) (by rfl) T.b_sorted (by decide +kernel) (pa_cons (pe_callTy (cr_setLI rfl) (by rfl) T.b_set (by decide +kernel) (pa_cons (pv 3) pa_nil)) pa_nil)) pa_nil))))) (pw_or1 (pt_not (pt_val (pe_call (ok_l_is T) (hr.mono (by decide)) rfl T.m_l_is T.k_l_is T.a_l_is .nil pass0 (pa_cons (pe_meth0 (pv 7) T.c_Answer T.t_Answer_distinct (ok_Answer_distinct T) (hr.mono (by decide)) T.a_Answer_distinct .nil pass0 ) (pa_cons (pe_callB (cr_sortedSetA rfl) (by rfl) T.b_sorted (by decide +kernel) (pa_cons (pe_callTy (cr_setLI rfl) (by rfl) T.b_set (by decide +kernel) (pa_cons (pe_op op_catS (pv 3) (pv 4)) pa_nil)) pa_nil)) pa_nil)))))))) (pss_one (ps_ret pe_bl)) pss_nil)
      (pss_cons (ps_for PassesOwn.never rfl (pi_range1 (by rfl) T.b_range (pa_cons pe_int pa_nil)) (pg_name (i := 8) sc_l_right.nd rfl (.inl rfl))
      (pss_one (ps_if (PW.pt (pw_or (pt_cmpR op_ne (pe_meth (pv 7) T.c_Answer T.t_Answer_times (ok_Answer_times T) (hr.mono (by decide)) T.a_Answer_times .nil pass0 (pa_cons (pv 8) pa_nil)) (pe_op op_add (pe_bm PySem.F.plainAttrs_list PySem.F.slot_list_count PySem.F.type_list_count mt_lcount (pv 3) (pa_cons (pv 8) pa_nil)) (pe_bm PySem.F.plainAttrs_list PySem.F.slot_list_count PySem.F.type_list_count mt_lcount (pv 4) (pa_cons (pv 8) pa_nil))) (nomark _)) (pw_or1 (pt_cmpR op_ne (pe_cmpR (op_inOwn (C := a.C_Answer) T.f_Answer__contains T.i_Answer__contains ((ok_Answer__contains T).raw T.a_Answer__contains .nil) (hr.mono (by decide)) pass0) (pv 8) (pv 7) rfl) (pe_cmpR op_in_seq (pv 8) (pe_op op_catS (pv 3) (pv 4)) rfl) (nomark _))))) (pss_one (ps_ret pe_bl)) pss_nil)))
      (pss_cons (ps_set (i := 9) sc_l_right.nd rfl (.inl rfl) (pe_op op_sub pe_int (pe_callB call_len_seq (by rfl) T.b_len PySem.boot_len (pa_cons (pv 3) pa_nil))))
      (pss_cons (ps_if (PW.pt (pw_or (pt_not (pt_val (pe_call (ok_l_refused T) (hr.mono (by decide)) rfl T.m_l_refused T.k_l_refused T.a_l_refused .nil pass0 (pa_cons (pe_op op_catS (pv 1) (pe_lstS (pa_cons (pv 9) pa_nil))) pa_nil)))) (pw_or1 (pt_not (pt_val (pe_call (ok_l_refused T) (hr.mono (by decide)) rfl T.m_l_refused T.k_l_refused T.a_l_refused .nil pass0 (pa_cons (pe_op op_catS (pe_lstS (pa_cons (pv 9) pa_nil)) (pv 1)) pa_nil))))))) (pss_one (ps_ret pe_bl)) pss_nil)
      (pss_one (ps_ret (pe_call (ok_l_is T) (hr.mono (by decide)) rfl T.m_l_is T.k_l_is T.a_l_is .nil pass0 (pa_cons (pe_make T.mk_Answer (ok_Answer__init T) (hr.mono (by decide)) rfl T.m_Answer bd_Answer__init vd_Answer__init passL (pa_cons (pe_op op_catS (pv 1) (pe_lstS (pa_cons (pe_op op_sub (pv 9) pe_int) pa_nil))) pa_nil)) (pa_cons (pe_op op_catS (pv 3) (pe_op op_repS (pe_lstS (pa_cons (pe_callB call_len_seq (by rfl) T.b_len PySem.boot_len (pa_cons (pv 1) pa_nil)) pa_nil)) (pe_op op_sub (pv 9) pe_int))) pa_nil)))))))))))))))), ?_⟩
    refine ⟨_, rfl, b, n, rfl, hb, by omega, fun l1 H1 n1 nl1 bt1 hb1 hl1 c1 cs1 cl1 => ?_⟩
    refine ⟨_, rfl, b, n + 23, rfl, hb1, by omega, fun l2 H2 n2 nl2 bt2 hb2 hl2 c2 cs2 cl2 => ?_⟩
    refine ⟨_, _, rfl, ?_⟩
    have hl1 := bt2 _ _ hl1 (hb.ne nl1)
    have bt02 := bt1.trans bt2
    clear bt1 bt2 hb1 hb2
    refine ⟨_, rfl, l1, n1, rfl, SqL.of hl1, c1, by omega, by omega, fun r1 H3 nr1 s3 hr1 => ?_⟩
    refine ⟨_, rfl, l2, n2, rfl, SqL.of (s3 _ _ hl2), c2, by omega, by omega, fun r2 H4 nr2 s4 hr2 => ?_⟩
    refine ⟨_, _, rfl, ?_⟩
    have s24 := s3.trans s4
    have hl1 := s24 _ _ hl1
    have hl2 := s24 _ _ hl2
    have hr1 := s4 _ _ hr1
    -- first, second
    refine ⟨_, rfl, l1, _, rfl, .inl (SqL.of hl1), fun q5 H5 nq5 s5 hq5 => ?_⟩
    refine fun x dx nx nd _ => ⟨x, dx, q5, n1, 3000, rfl, upd_same, (Same.make nx nd).seq (SqL.of hq5), c1, .inl ⟨cs1, by omega, fun p5 H6 bt6 hx6 hp6 => ⟨rfl, ?_⟩⟩⟩
    have s6 := made_same nx nd bt6
    have s46 := s5.trans s6
    refine ⟨_, rfl, l2, _, rfl, .inl (SqL.of (s46 _ _ hl2)), fun q7 H7 nq7 s7 hq7 => ?_⟩
    refine fun y dy ny ndy _ => ⟨y, dy, q7, n2, 3000, rfl, upd_same, (Same.make ny ndy).seq (SqL.of hq7), c2, .inl ⟨cs2, by omega, fun p8 H8 bt8 hy8 hp8 => ⟨rfl, ?_⟩⟩⟩
    have s8 := made_same ny ndy bt8
    refine ⟨_, _, rfl, ?_⟩
    have s48 := (s46.trans s7).trans s8
    have s68 := s7.trans s8
    have A : AnsAt a H8 x (rowsF 0 n1) := ⟨dx, p5, s68 _ _ hx6, hp6.keep s68⟩
    have B : AnsAt a H8 y (rowsF 0 n2) := ⟨dy, p8, hy8, hp8⟩
    have lr := rowsF_len 0 n1 c1
    have ls := rowsF_len 0 n2 c2
    have r0 : ∀ k ∈ rowsF 0 n1, 0 ≤ k := fun k hk => by have := rows_ge 0 n1 k hk; omega
    have s0 : ∀ k ∈ rowsF 0 n2, 0 ≤ k := fun k hk => by have := rows_ge 0 n2 k hk; omega
    have rL : ∀ k ∈ rowsF 0 n1, k < 1000 := fun k hk => by have := rows_lt 0 n1 k hk; omega
    have sL : ∀ k ∈ rowsF 0 n2, k < 1000 := fun k hk => by have := rows_lt 0 n2 k hk; omega
    have hl1 := s48 _ _ hl1
    have hr1 := s48 _ _ hr1
    have hr2 := s48 _ _ hr2
    have bt08 : But b H H8 := bt02.trans (But.of (s24.trans s48))
    have rU := rows_up 0 n1
    have sU := rows_up 0 n2
    generalize er : rowsF 0 n1 = rs at *
    generalize es : rowsF 0 n2 = ss at *
    clear hl2 s3 s4 s5 s6 s7 s8 s24 s46 s48 s68 hq5 hq7 hx6 hp6 hy8 hp8 bt6 bt8 bt02
    obtain ⟨dx, px, hx, hpx⟩ := id A
    obtain ⟨dy, py, hy, hpy⟩ := id B
    -- both
    refine ⟨_, rfl, _, rfl, x, y, dx, dy, _, _, rfl, rfl, hx, hy, x, y, rs, ss, rfl, A, B, r0, s0, rL, sL, by omega, fun z zs H9 zU zC s9 Z => ?_⟩
    have A := A.keep s9
    have B := B.keep s9
    have hx := s9 _ _ hx
    have hy := s9 _ _ hy
    have hr1 := s9 _ _ hr1
    have hr2 := s9 _ _ hr2
    have hl1 := s9 _ _ hl1
    have bt09 : But b H H9 := bt08.trans (But.of s9)
    obtain ⟨dz, pz, hz, hpz⟩ := id Z
    have lz : zs.length = rs.length + ss.length := by
      rw [← List.length_append]
      exact perm_len fun k => by rw [zC, List.count_append]
    have z0 : ∀ k ∈ zs, 0 ≤ k := fun k hk => (cnt_mem zC hk).elim (r0 k) (s0 k)
    have zL : ∀ k ∈ zs, k < 1000 := fun k hk => (cnt_mem zC hk).elim (rL k) (sL k)
    have szc : ∀ {n : Nat}, n ≤ 9000 → n ≤ sizeLine := fun h => sz_of (by omega)
    -- is(both, sorted(rows + more))
    refine ⟨_, rfl, _, rfl, _, rfl, r1, r2, _, _, rfl, rfl, hr1, hr2, by rw [List.length_map, List.length_map]; exact szc (by omega), fun q10 H10 nq10 s10 hq10 => ?_⟩
    rw [← List.map_append] at hq10
    refine ⟨q10, _, rfl, SqL.of hq10, fun w11 q11 H11 pm11 up11 nq11 s11 hq11 => ?_⟩
    have e11 := srt pm11 up11 zU fun k => by rw [zC, List.count_append]
    subst e11
    have t11 := s10.trans s11
    refine ⟨z, q11, _, rfl, Z.keep t11, SqL.of hq11, by omega, fun H12 s12 => ⟨_, rfl, iteF ?_⟩⟩
    have t12 := t11.trans s12
    -- is(second + first, ..)
    refine ⟨_, rfl, _, rfl, y, x, dy, dx, _, _, rfl, rfl, t12 _ _ hy, t12 _ _ hx, y, x, ss, rs, rfl, B.keep t12, A.keep t12, s0, r0, sL, rL, by omega, fun v vs H13 vU vC s13 Vv => ?_⟩
    have t13 := t12.trans s13
    refine ⟨_, rfl, _, rfl, r1, r2, _, _, rfl, rfl, t13 _ _ hr1, t13 _ _ hr2, by rw [List.length_map, List.length_map]; exact szc (by omega), fun q14 H14 nq14 s14 hq14 => ?_⟩
    rw [← List.map_append] at hq14
    refine ⟨q14, _, rfl, SqL.of hq14, fun w15 q15 H15 pm15 up15 nq15 s15 hq15 => ?_⟩
    have e15 := srt pm15 up15 vU fun k => by rw [vC, List.count_append, Nat.add_comm]
    subst e15
    have l15 := pm15.length_eq
    rw [List.length_append] at l15
    refine ⟨v, q15, _, rfl, Vv.keep (s14.trans s15), SqL.of hq15, by omega, fun H16 s16 => ⟨_, rfl, iteF ?_⟩⟩
    have t16 := ((t13.trans s14).trans s15).trans s16
    -- is(first + first, sorted(rows + rows))
    refine ⟨_, rfl, _, rfl, x, x, dx, dx, _, _, rfl, rfl, t16 _ _ hx, t16 _ _ hx, x, x, rs, rs, rfl, A.keep t16, A.keep t16, r0, r0, rL, rL, by omega, fun v vs H17 vU vC s17 Vv => ?_⟩
    have t17 := t16.trans s17
    refine ⟨_, rfl, _, rfl, r1, r1, _, _, rfl, rfl, t17 _ _ hr1, t17 _ _ hr1, by rw [List.length_map]; exact szc (by omega), fun q18 H18 nq18 s18 hq18 => ?_⟩
    rw [← List.map_append] at hq18
    refine ⟨q18, _, rfl, SqL.of hq18, fun w19 q19 H19 pm19 up19 nq19 s19 hq19 => ?_⟩
    have e19 := srt pm19 up19 vU fun k => by rw [vC, List.count_append]
    subst e19
    have l19 := pm19.length_eq
    rw [List.length_append] at l19
    refine ⟨v, q19, _, rfl, Vv.keep (s18.trans s19), SqL.of hq19, by omega, fun H20 s20 => ⟨_, rfl, iteF ?_⟩⟩
    have t20 := ((t17.trans s18).trans s19).trans s20
    -- is(both + first, sorted(rows + rows + more))
    refine ⟨_, rfl, _, rfl, z, x, dz, dx, _, _, rfl, rfl, t20 _ _ hz, t20 _ _ hx, z, x, w11, rs, rfl, Z.keep t20, A.keep t20, z0, r0, zL, rL, by omega, fun v vs H21 vU vC s21 Vv => ?_⟩
    have t21 := t20.trans s21
    refine ⟨_, rfl, _, rfl, r1, r1, _, _, rfl, rfl, t21 _ _ hr1, t21 _ _ hr1, by rw [List.length_map]; exact szc (by omega), fun q22 H22 nq22 s22 hq22 => ?_⟩
    rw [← List.map_append] at hq22
    refine ⟨_, rfl, q22, r2, _, _, rfl, rfl, hq22, s22 _ _ (t21 _ _ hr2), by rw [List.length_map, List.length_map, List.length_append]; exact szc (by omega), fun q23 H23 nq23 s23 hq23 => ?_⟩
    rw [← List.map_append] at hq23
    refine ⟨q23, _, rfl, SqL.of hq23, fun w24 q24 H24 pm24 up24 nq24 s24 hq24 => ?_⟩
    have e24 := srt pm24 up24 vU fun k => by rw [vC, zC, List.count_append, List.count_append]; omega
    subst e24
    have l24 := pm24.length_eq
    rw [List.length_append, List.length_append] at l24
    refine ⟨v, q24, _, rfl, Vv.keep ((s22.trans s23).trans s24), SqL.of hq24, by omega, fun H25 s25 => ⟨_, rfl, iteF ?_⟩⟩
    have t25 := (((t21.trans s22).trans s23).trans s24).trans s25
    -- is(first, rows), is(second, more), is(both, ..)
    refine ⟨_, rfl, _, rfl, x, r1, rs, rfl, A.keep t25, SqL.of (t25 _ _ hr1), by omega, fun H26 s26 => ⟨_, rfl, iteF ?_⟩⟩
    have t26 := t25.trans s26
    refine ⟨_, rfl, _, rfl, y, r2, ss, rfl, B.keep t26, SqL.of (t26 _ _ hr2), by omega, fun H27 s27 => ⟨_, rfl, iteF ?_⟩⟩
    have t27 := t26.trans s27
    refine ⟨_, rfl, _, rfl, _, rfl, r1, r2, _, _, rfl, rfl, t27 _ _ hr1, t27 _ _ hr2, by rw [List.length_map, List.length_map]; exact szc (by omega), fun q28 H28 nq28 s28 hq28 => ?_⟩
    rw [← List.map_append] at hq28
    refine ⟨q28, _, rfl, SqL.of hq28, fun w29 q29 H29 pm29 up29 nq29 s29 hq29 => ?_⟩
    have e29 := srt pm29 up29 zU fun k => by rw [zC, List.count_append]
    subst e29
    have t29 := (t27.trans s28).trans s29
    refine ⟨z, q29, _, rfl, Z.keep t29, SqL.of hq29, by omega, fun H30 s30 => ⟨_, rfl, iteF ?_⟩⟩
    have t30 := t29.trans s30
    -- distinct
    refine ⟨_, rfl, x, dx, _, rfl, t30 _ _ hx, lk_Answer_no_distinct _, x, rs, rfl, A.keep t30, r0, rL, by omega, fun v vs H31 vU vC s31 Vv => ?_⟩
    have t31 := t30.trans s31
    refine ⟨_, rfl, r1, rs, rfl, SqL.of (t31 _ _ hr1), FewI.of_lt fun k hk => ⟨r0 k hk, by have := rL k hk; omega⟩, fun q32 c32 H32 nq32 s32 hq32 hc32 => ?_⟩
    refine ⟨q32, _, c32, rfl, hq32, fun w33 q33 H33 rise33 mem33 len33 nq33 s33 hq33 => ?_⟩
    have e33 := srt_set rise33 (fun k => (mem33 k).trans ⟨of_decide_eq_true, decide_eq_true⟩) vU vC
    subst e33
    refine ⟨v, q33, _, rfl, Vv.keep (s32.trans s33), SqL.of hq33, by omega, fun H34 s34 => ⟨_, rfl, iteF ?_⟩⟩
    have t34 := ((t31.trans s32).trans s33).trans s34
    refine ⟨_, rfl, z, dz, _, rfl, t34 _ _ hz, lk_Answer_no_distinct _, z, w29, rfl, Z.keep t34, z0, zL, by omega, fun v vs H35 vU vC s35 Vv => ?_⟩
    have t35 := t34.trans s35
    refine ⟨_, rfl, _, rfl, r1, r2, _, _, rfl, rfl, t35 _ _ hr1, t35 _ _ hr2, by rw [List.length_map, List.length_map]; exact szc (by omega), fun q36 H36 nq36 s36 hq36 => ?_⟩
    rw [← List.map_append] at hq36
    refine ⟨q36, rs ++ ss, rfl, SqL.of hq36, FewI.of_lt fun k hk => (List.mem_append.mp hk).elim (fun h => ⟨r0 k h, by have := rL k h; omega⟩) fun h => ⟨s0 k h, by have := sL k h; omega⟩, fun q37 c37 H37 nq37 s37 hq37 hc37 => ?_⟩
    refine ⟨q37, _, c37, rfl, hq37, fun w38 q38 H38 rise38 mem38 len38 nq38 s38 hq38 => ?_⟩
    have e38 := srt_set (xs := w29) rise38 (fun k => (mem38 k).trans (Iff.trans ⟨of_decide_eq_true, decide_eq_true⟩ (mem_cnt zC k).symm)) vU vC
    subst e38
    rw [List.length_append] at hc37
    refine ⟨v, q38, _, rfl, Vv.keep ((s36.trans s37).trans s38), SqL.of hq38, by omega, fun H39 s39 => ⟨_, rfl, iteF ?_⟩⟩
    have t39 := (((t35.trans s36).trans s37).trans s38).trans s39
    -- times and in
    have hr1' := t39 _ _ hr1
    have hr2' := t39 _ _ hr2
    have hz' := t39 _ _ hz
    have Z' := Z.keep t39
    have hl1' := t39 _ _ hl1
    have bt39 : But b H H39 := bt09.trans (But.of t39)
    refine ⟨22, rfl, by decide, by decide, for_range (lo := 0) (n := 22) (fun i σ H' => ∃ (v8 : Option V), σ = [some (.ref b), some (.ref l1), some (.ref l2), some (.ref r1), some (.ref r2), some (.ref x), some (.ref y), some (.ref z), v8, none] ∧ Same H39 H') ⟨_, rfl, Same.refl _⟩ ?_ ?_⟩
    · rintro i σ H40 hi ⟨v8, rfl, s40⟩
      refine ⟨_, rfl, z, dz, _, rfl, s40 _ _ hz', lk_Answer_no_times _, _, rfl, z, w29, _, rfl, Z'.keep s40, ?_⟩
      refine ⟨_, rfl, .inl ⟨rfl, _, SqL.of (s40 _ _ hr1')⟩, _, rfl, r1, rs, _, rfl, rfl, SqL.of (s40 _ _ hr1'), _, rfl, .inl ⟨rfl, _, SqL.of (s40 _ _ hr2')⟩, _, rfl, r2, ss, _, rfl, rfl, SqL.of (s40 _ _ hr2'), _, _, rfl, rfl, rfl, _, rfl, iteNS ?_ ?_⟩
      · rw [zC]
        congr 1
      refine ⟨_, rfl, _, rfl, z, dz, _, rfl, s40 _ _ hz', z, w29, _, rfl, Z'.keep s40, .inl ⟨_, rfl, _, rfl, ?_⟩⟩
      refine ⟨_, rfl, _, rfl, _, rfl, r1, r2, _, _, rfl, rfl, s40 _ _ hr1', s40 _ _ hr2', by rw [List.length_map, List.length_map]; exact szc (by omega), fun q41 H41 nq41 s41 hq41 => ?_⟩
      rw [← List.map_append] at hq41
      refine ⟨q41, _, rfl, .inl (SqL.of hq41), rfl, flat_ints _, rfl, _, rfl, iteNS ?_ ⟨_, rfl, s40.trans s41⟩⟩
      show V.bl (decide (_ ∈ w29)) = V.bl (inV _ ((rs ++ ss).map V.int))
      rw [inV_ints, decide_eq_decide.mpr (mem_cnt zC _)]
    rintro σ H40 ⟨v8, rfl, s40⟩
    -- gap
    have hr1' := s40 _ _ hr1'
    have hl1' := s40 _ _ hl1'
    have bt40 : But b H H40 := bt39.trans (But.of s40)
    refine ⟨_, rfl, r1, _, rfl, .inl (SqL.of hr1'), _, _, rfl, rfl, ?_⟩
    rw [List.length_map]
    have gp : (0 : Int) < 3001 - (rs.length : Nat) := by omega
    -- refused(one + [gap])
    refine ⟨_, rfl, _, rfl, (by show 1 ≤ sizeLine; decide), fun q41 H41 nq41 s41 hq41 => ?_⟩
    refine ⟨l1, q41, _, _, rfl, rfl, s41 _ _ hl1', hq41, by rw [List.length_map]; exact szc (by show _ + 1 ≤ _; omega), fun q42 H42 nq42 s42 hq42 => ?_⟩
    have e42 : n1.map V.int ++ [V.int (3001 - (rs.length : Nat))] = (n1 ++ [3001 - ((rs.length : Nat) : Int)]).map V.int := by rw [List.map_append]; rfl
    rw [e42] at hq42
    refine ⟨q42, _, rfl, SqL.of hq42, fun c hc => ?_, ?_, fun H43 s43 => ⟨_, rfl, iteF ?_⟩⟩
    · rcases List.mem_append.mp hc with h | h
      · exact c1 c h
      · rw [List.mem_singleton.mp h]
        omega
    · rw [List.sum_append]
      simp only [List.sum_cons, List.sum_nil]
      omega
    have t43 := (s41.trans s42).trans s43
    -- refused([gap] + one)
    refine ⟨_, rfl, (by show 1 ≤ sizeLine; decide), fun q44 H44 nq44 s44 hq44 => ?_⟩
    have t44 := t43.trans s44
    refine ⟨_, rfl, q44, l1, _, _, rfl, rfl, hq44, t44 _ _ hl1', by rw [List.length_map]; exact szc (by show 1 + _ ≤ _; omega), fun q45 H45 nq45 s45 hq45 => ?_⟩
    have e45 : [V.int (3001 - (rs.length : Nat))] ++ n1.map V.int = ((3001 - ((rs.length : Nat) : Int)) :: n1).map V.int := rfl
    rw [e45] at hq45
    refine ⟨q45, _, rfl, SqL.of hq45, fun c hc => ?_, ?_, fun H46 s46 => ⟨_, rfl, iteF ?_⟩⟩
    · rcases List.mem_cons.mp hc with h | h
      · omega
      · exact c1 c h
    · rw [List.sum_cons]
      omega
    have t46 := (t44.trans s45).trans s46
    -- is(Answer(one + [gap - 1]), ..)
    refine ⟨_, rfl, _, rfl, _, _, rfl, rfl, (by show 1 ≤ sizeLine; decide), fun q47 H47 nq47 s47 hq47 => ?_⟩
    have t47 := t46.trans s47
    refine ⟨l1, q47, _, _, rfl, rfl, t47 _ _ hl1', hq47, by rw [List.length_map]; exact szc (by show _ + 1 ≤ _; omega), fun q48 H48 nq48 s48 hq48 => ?_⟩
    have e48 : n1.map V.int ++ [V.int (3001 - (rs.length : Nat) - 1)] = (n1 ++ [3001 - ((rs.length : Nat) : Int) - 1]).map V.int := by rw [List.map_append]; rfl
    rw [e48] at hq48
    have sm : (n1 ++ [3001 - ((rs.length : Nat) : Int) - 1]).sum = 3000 := by
      rw [List.sum_append]
      simp only [List.sum_cons, List.sum_nil]
      omega
    refine fun u du nu ndu _ => ⟨u, du, q48, _, 3000, rfl, upd_same, (Same.make nu ndu).seq (SqL.of hq48), fun c hc => ?_, .inl ⟨by omega, by omega, fun p49 H49 bt49 hu49 hp49 => ⟨rfl, ?_⟩⟩⟩
    · rcases List.mem_append.mp hc with h | h
      · exact c1 c h
      · rw [List.mem_singleton.mp h]
        omega
    have s49 := made_same nu ndu bt49
    have t49 := (t47.trans s48).trans s49
    refine ⟨_, rfl, _, rfl, l1, _, rfl, .inl (SqL.of (t49 _ _ hl1')), (by show 1 ≤ sizeLine; decide), fun q50 H50 nq50 s50 hq50 => ?_⟩
    refine ⟨_, rfl, _, _, rfl, rfl, q50, _, _, rfl, rfl, hq50, by omega, by omega, ?_, fun q51 H51 nq51 s51 hq51 => ?_⟩
    · show 1 * (3001 - ((rs.length : Nat) : Int) - 1).toNat ≤ sizeLine
      exact sz_of (by omega)
    have t51 := (t49.trans s50).trans s51
    rw [flat1] at hq51
    refine ⟨r1, q51, _, _, rfl, rfl, t51 _ _ hr1', hq51, ?_, fun q52 H52 nq52 s52 hq52 => ?_⟩
    · rw [List.length_map, List.length_replicate]
      exact szc (by omega)
    have e52 : rs.map V.int ++ List.replicate (3001 - ((rs.length : Nat) : Int) - 1).toNat (V.int ((n1.map V.int).length : Nat)) = (rowsF 0 (n1 ++ [3001 - ((rs.length : Nat) : Int) - 1])).map V.int := by
      rw [rowsF_snoc, er, List.map_append, List.map_replicate, List.length_map, Nat.zero_add]
    rw [e52] at hq52
    have ln := rowsF_len 0 (n1 ++ [3001 - ((rs.length : Nat) : Int) - 1]) fun c hc => by
      rcases List.mem_append.mp hc with h | h
      · exact c1 c h
      · rw [List.mem_singleton.mp h]
        omega
    have sE := (s50.trans s51).trans s52
    refine ⟨u, q52, _, rfl, ⟨du, p49, sE _ _ hu49, hp49.keep sE⟩, SqL.of hq52, by omega, fun H53 s53 => ?_⟩
    exact k H53 (bt40.trans (But.of ((t51.trans s52).trans s53)))

def spLaw (K : PySem.W.Frag) : Sp := fun vs H Q _ => ∃ (a : Addr) (ns : List Int), vs = [.ref a] ∧ SqL K H a (ns.map V.int) ∧ ns.length ≤ 63 ∧ ∀ H', Q (.bl true) H'
theorem sc_law : FnScope ["_law_script", "_law_at"] ["_law_script"] (defScope s_law) := ⟨rfl, rfl, rfl, by decide +kernel, rfl, by decide +kernel, by decide +kernel⟩
theorem ok_law (T : Txt K mg a) : FnOk P w K mg base CX0 7 a.f_law a.d_law ["_law_script"] (spLaw K) := by
  refine T.F_law.ok sc_law (fun vs H Q E h => ?_) (fun cdv A outer s H vs Q E hr h => ?_)
  · obtain ⟨l, ns, rfl, _⟩ := h
    rfl
  · obtain ⟨l, ns, rfl, hS, hlen, k⟩ := h
    refine ⟨_, (pss_cons (ps_for PassesOwn.never rfl (pi_range1 (by rfl) T.b_range (pa_cons (pe_callB (call_max2 rfl) (by rfl) T.b_max (by decide +kernel) (pa_cons pe_int (pa_cons (pe_callB (call_min2 rfl) (by rfl) T.b_min (by decide +kernel) (pa_cons pe_int (pa_cons (pe_callB call_len_seq (by rfl) T.b_len PySem.boot_len (pa_cons (pv 0) pa_nil)) pa_nil))) pa_nil))) pa_nil)) (pg_name (i := 1) sc_law.nd rfl (.inl rfl))
      (pss_one (ps_if (pt_not (pt_val (pe_call (ok_l_right T) (hr.mono (by decide)) rfl T.m_l_right T.k_l_right T.a_l_right .nil pass0 (pa_cons (pe_call (ok_l_bag T) (hr.mono (by decide)) rfl T.m_l_bag T.k_l_bag T.a_l_bag .nil pass0 (pa_cons (pv 0) (pa_cons (pv 1) pa_nil))) pa_nil)))) (pss_one (ps_ret pe_bl)) pss_nil)))
      (pss_one (ps_ret pe_bl))), ?_⟩
    refine ⟨_, rfl, l, _, rfl, .inl hS, _, _, rfl, _, _, rfl, _, rfl, ?_, ?_, ?_⟩
    · split <;> split <;> omega
    · split <;> split <;> omega
    generalize em : Int.toNat _ = m
    have hm : m ≤ 4 := by
      rw [← em]
      split <;> split <;> omega
    refine for_range (lo := 0) (n := m) (fun i σ H' => ∃ (v1 : Option V), σ = [some (.ref l), v1] ∧ Same H H') ⟨_, rfl, Same.refl _⟩ ?_ ?_
    · rintro i σ H' hi ⟨v1, rfl, sm⟩
      refine ⟨_, rfl, _, rfl, l, ns, i, (by rw [Int.zero_add]; rfl), sm.seq hS, by omega, fun b d m H2 nb s2 hb d0 m0 m1 => ?_⟩
      have hb0 : BagAt H2 b 0 := ⟨d, m, 0, hb, d0, m0, m1, by decide, by decide⟩
      have nb0 : H b = none := sm.free nb
      refine ⟨b, 0, rfl, hb0, by decide, fun H4 bt4 => ⟨_, rfl, iteF ⟨_, rfl, fun q o e => bt4 q o (s2 q o (sm q o e)) (ne_of_none e nb0)⟩⟩⟩
    · rintro σ H' ⟨v1, rfl, sm⟩
      exact k H'

end
end Toy

set_option Elab.async false
set_option linter.all false
set_option maxRecDepth 100000
set_option maxHeartbeats 4000000
set_option pp.maxSteps 1500
set_option pp.deepTerms false
namespace Toy
open PySem L2 Lf
theorem txt_mk {K : PySem.W.Frag} {h : Heap} {mg : Str → Option Value} {C_LinkedError : Addr} {C_BadRow : Addr} {C_TooMany : Addr} {C_Answer : Addr} {f_is_integer : Addr} {od_is_integer an_is_integer : Option Addr} {sl_is_integer : Array (Option Value)} {oc_is_integer kV_is_integer dc_is_integer pm_is_integer cd_is_integer ct_is_integer : Value} {f_TooMany__init : Addr} {od_TooMany__init an_TooMany__init : Option Addr} {sl_TooMany__init : Array (Option Value)} {oc_TooMany__init kV_TooMany__init dc_TooMany__init pm_TooMany__init cd_TooMany__init ct_TooMany__init : Value} {f_repeated_positions : Addr} {od_repeated_positions an_repeated_positions : Option Addr} {sl_repeated_positions : Array (Option Value)} {oc_repeated_positions kV_repeated_positions dc_repeated_positions pm_repeated_positions cd_repeated_positions ct_repeated_positions : Value} {f_Answer__init : Addr} {od_Answer__init an_Answer__init : Option Addr} {sl_Answer__init : Array (Option Value)} {oc_Answer__init dc_Answer__init pm_Answer__init cd_Answer__init ct_Answer__init : Value} {D_Answer__init : Addr} {tk_Answer__init_most : Tok} {f_Answer__len : Addr} {od_Answer__len an_Answer__len : Option Addr} {sl_Answer__len : Array (Option Value)} {oc_Answer__len kV_Answer__len dc_Answer__len pm_Answer__len cd_Answer__len ct_Answer__len : Value} {f_Answer__contains : Addr} {od_Answer__contains an_Answer__contains : Option Addr} {sl_Answer__contains : Array (Option Value)} {oc_Answer__contains kV_Answer__contains dc_Answer__contains pm_Answer__contains cd_Answer__contains ct_Answer__contains : Value} {f_Answer__add : Addr} {od_Answer__add an_Answer__add : Option Addr} {sl_Answer__add : Array (Option Value)} {oc_Answer__add kV_Answer__add dc_Answer__add pm_Answer__add cd_Answer__add ct_Answer__add : Value} {f_Answer_times : Addr} {od_Answer_times an_Answer_times : Option Addr} {sl_Answer_times : Array (Option Value)} {oc_Answer_times kV_Answer_times dc_Answer_times pm_Answer_times cd_Answer_times ct_Answer_times : Value} {f_Answer_distinct : Addr} {od_Answer_distinct an_Answer_distinct : Option Addr} {sl_Answer_distinct : Array (Option Value)} {oc_Answer_distinct kV_Answer_distinct dc_Answer_distinct pm_Answer_distinct cd_Answer_distinct ct_Answer_distinct : Value} {f_l_bag : Addr} {od_l_bag an_l_bag : Option Addr} {sl_l_bag : Array (Option Value)} {oc_l_bag kV_l_bag dc_l_bag pm_l_bag cd_l_bag ct_l_bag : Value} {f_l_draw : Addr} {od_l_draw an_l_draw : Option Addr} {sl_l_draw : Array (Option Value)} {oc_l_draw kV_l_draw dc_l_draw pm_l_draw cd_l_draw ct_l_draw : Value} {f_l_of : Addr} {od_l_of an_l_of : Option Addr} {sl_l_of : Array (Option Value)} {oc_l_of kV_l_of dc_l_of pm_l_of cd_l_of ct_l_of : Value} {f_l_counts : Addr} {od_l_counts an_l_counts : Option Addr} {sl_l_counts : Array (Option Value)} {oc_l_counts kV_l_counts dc_l_counts pm_l_counts cd_l_counts ct_l_counts : Value} {f_l_rows : Addr} {od_l_rows an_l_rows : Option Addr} {sl_l_rows : Array (Option Value)} {oc_l_rows kV_l_rows dc_l_rows pm_l_rows cd_l_rows ct_l_rows : Value} {f_l_refused : Addr} {od_l_refused an_l_refused : Option Addr} {sl_l_refused : Array (Option Value)} {oc_l_refused kV_l_refused dc_l_refused pm_l_refused cd_l_refused ct_l_refused : Value} {f_l_is : Addr} {od_l_is an_l_is : Option Addr} {sl_l_is : Array (Option Value)} {oc_l_is kV_l_is dc_l_is pm_l_is cd_l_is ct_l_is : Value} {f_l_right : Addr} {od_l_right an_l_right : Option Addr} {sl_l_right : Array (Option Value)} {oc_l_right kV_l_right dc_l_right pm_l_right cd_l_right ct_l_right : Value} {f_law : Addr} {od_law an_law : Option Addr} {sl_law : Array (Option Value)} {oc_law kV_law dc_law pm_law cd_law ct_law : Value} {nm_TooMany q_TooMany : Str} {N_TooMany : Addr} {bs_TooMany sub_TooMany : List Value} {sn_TooMany : List Str} {ab_TooMany : Bool} {col_TooMany : Option Bool} {dd_TooMany : Option Addr} {m0_TooMany m1_TooMany m2_TooMany m3_TooMany m5_TooMany : Option Value} (X : K.In h) (Gm : h.Ns mainGlobals mg)
    (aC_LinkedError : PySem.W.nsIn K mainGlobals "LinkedError" = some (some (.ref C_LinkedError)))
    (aC_BadRow : PySem.W.nsIn K mainGlobals "BadRow" = some (some (.ref C_BadRow)))
    (aC_TooMany : PySem.W.nsIn K mainGlobals "TooMany" = some (some (.ref C_TooMany)))
    (aC_Answer : PySem.W.nsIn K mainGlobals "Answer" = some (some (.ref C_Answer)))
    (a_is_integer : PySem.W.nsIn K mainGlobals "is_integer" = some (some (.ref f_is_integer)))
    (l_is_integer : K.lookup f_is_integer = some ⟨oc_is_integer, od_is_integer, .func (PySem.W.fnOf "is_integer" "is_integer" (defArgs s_is_integer) (defBody s_is_integer) (defScope s_is_integer) .none kV_is_integer dc_is_integer pm_is_integer an_is_integer cd_is_integer ct_is_integer), sl_is_integer⟩)
    (c_is_integer : PySem.W.codeIn K cd_is_integer "is_integer" = true)
    (k_is_integer : PySem.W.keepIn K (.ref f_is_integer) = true)
    (a_TooMany__init : PySem.W.findIn K (.ref C_TooMany) "__init__" = some (some (.ref f_TooMany__init)))
    (ty_TooMany__init : PySem.W.typeIn K (.ref f_TooMany__init) = some (.type "function"))
    (l_TooMany__init : K.lookup f_TooMany__init = some ⟨oc_TooMany__init, od_TooMany__init, .func (PySem.W.fnOf "__init__" "TooMany.__init__" (defArgs s_TooMany__init) (defBody s_TooMany__init) (defScope s_TooMany__init) .none kV_TooMany__init dc_TooMany__init pm_TooMany__init an_TooMany__init cd_TooMany__init ct_TooMany__init), sl_TooMany__init⟩)
    (c_TooMany__init : PySem.W.codeIn K cd_TooMany__init "TooMany.__init__" = true)
    (k_TooMany__init : PySem.W.keepIn K (.ref f_TooMany__init) = true)
    (a_repeated_positions : PySem.W.nsIn K mainGlobals "repeated_positions" = some (some (.ref f_repeated_positions)))
    (l_repeated_positions : K.lookup f_repeated_positions = some ⟨oc_repeated_positions, od_repeated_positions, .func (PySem.W.fnOf "repeated_positions" "repeated_positions" (defArgs s_repeated_positions) (defBody s_repeated_positions) (defScope s_repeated_positions) .none kV_repeated_positions dc_repeated_positions pm_repeated_positions an_repeated_positions cd_repeated_positions ct_repeated_positions), sl_repeated_positions⟩)
    (c_repeated_positions : PySem.W.codeIn K cd_repeated_positions "repeated_positions" = true)
    (k_repeated_positions : PySem.W.keepIn K (.ref f_repeated_positions) = true)
    (a_Answer__init : PySem.W.findIn K (.ref C_Answer) "__init__" = some (some (.ref f_Answer__init)))
    (i_Answer__init : PySem.W.isFn K (.ref f_Answer__init) = true)
    (fi_Answer__init : PySem.W.fnIn K f_Answer__init = true)
    (l_Answer__init : K.lookup f_Answer__init = some ⟨oc_Answer__init, od_Answer__init, .func (PySem.W.fnOf "__init__" "Answer.__init__" (defArgs s_Answer__init) (defBody s_Answer__init) (defScope s_Answer__init) .none (.ref D_Answer__init) dc_Answer__init pm_Answer__init an_Answer__init cd_Answer__init ct_Answer__init), sl_Answer__init⟩)
    (kw_Answer__init_most : PySem.W.nsIn K D_Answer__init "most" = some (some (.int 3000 tk_Answer__init_most)))
    (c_Answer__init : PySem.W.codeIn K cd_Answer__init "Answer.__init__" = true)
    (k_Answer__init : PySem.W.keepIn K (.ref f_Answer__init) = true)
    (a_Answer__len : PySem.W.findIn K (.ref C_Answer) "__len__" = some (some (.ref f_Answer__len)))
    (i_Answer__len : PySem.W.isFn K (.ref f_Answer__len) = true)
    (fi_Answer__len : PySem.W.fnIn K f_Answer__len = true)
    (l_Answer__len : K.lookup f_Answer__len = some ⟨oc_Answer__len, od_Answer__len, .func (PySem.W.fnOf "__len__" "Answer.__len__" (defArgs s_Answer__len) (defBody s_Answer__len) (defScope s_Answer__len) .none kV_Answer__len dc_Answer__len pm_Answer__len an_Answer__len cd_Answer__len ct_Answer__len), sl_Answer__len⟩)
    (c_Answer__len : PySem.W.codeIn K cd_Answer__len "Answer.__len__" = true)
    (k_Answer__len : PySem.W.keepIn K (.ref f_Answer__len) = true)
    (a_Answer__contains : PySem.W.findIn K (.ref C_Answer) "__contains__" = some (some (.ref f_Answer__contains)))
    (i_Answer__contains : PySem.W.isFn K (.ref f_Answer__contains) = true)
    (fi_Answer__contains : PySem.W.fnIn K f_Answer__contains = true)
    (l_Answer__contains : K.lookup f_Answer__contains = some ⟨oc_Answer__contains, od_Answer__contains, .func (PySem.W.fnOf "__contains__" "Answer.__contains__" (defArgs s_Answer__contains) (defBody s_Answer__contains) (defScope s_Answer__contains) .none kV_Answer__contains dc_Answer__contains pm_Answer__contains an_Answer__contains cd_Answer__contains ct_Answer__contains), sl_Answer__contains⟩)
    (c_Answer__contains : PySem.W.codeIn K cd_Answer__contains "Answer.__contains__" = true)
    (k_Answer__contains : PySem.W.keepIn K (.ref f_Answer__contains) = true)
    (a_Answer__add : PySem.W.findIn K (.ref C_Answer) "__add__" = some (some (.ref f_Answer__add)))
    (i_Answer__add : PySem.W.isFn K (.ref f_Answer__add) = true)
    (fi_Answer__add : PySem.W.fnIn K f_Answer__add = true)
    (l_Answer__add : K.lookup f_Answer__add = some ⟨oc_Answer__add, od_Answer__add, .func (PySem.W.fnOf "__add__" "Answer.__add__" (defArgs s_Answer__add) (defBody s_Answer__add) (defScope s_Answer__add) .none kV_Answer__add dc_Answer__add pm_Answer__add an_Answer__add cd_Answer__add ct_Answer__add), sl_Answer__add⟩)
    (c_Answer__add : PySem.W.codeIn K cd_Answer__add "Answer.__add__" = true)
    (k_Answer__add : PySem.W.keepIn K (.ref f_Answer__add) = true)
    (a_Answer_times : PySem.W.findIn K (.ref C_Answer) "times" = some (some (.ref f_Answer_times)))
    (i_Answer_times : PySem.W.isFn K (.ref f_Answer_times) = true)
    (fi_Answer_times : PySem.W.fnIn K f_Answer_times = true)
    (l_Answer_times : K.lookup f_Answer_times = some ⟨oc_Answer_times, od_Answer_times, .func (PySem.W.fnOf "times" "Answer.times" (defArgs s_Answer_times) (defBody s_Answer_times) (defScope s_Answer_times) .none kV_Answer_times dc_Answer_times pm_Answer_times an_Answer_times cd_Answer_times ct_Answer_times), sl_Answer_times⟩)
    (c_Answer_times : PySem.W.codeIn K cd_Answer_times "Answer.times" = true)
    (k_Answer_times : PySem.W.keepIn K (.ref f_Answer_times) = true)
    (a_Answer_distinct : PySem.W.findIn K (.ref C_Answer) "distinct" = some (some (.ref f_Answer_distinct)))
    (i_Answer_distinct : PySem.W.isFn K (.ref f_Answer_distinct) = true)
    (fi_Answer_distinct : PySem.W.fnIn K f_Answer_distinct = true)
    (l_Answer_distinct : K.lookup f_Answer_distinct = some ⟨oc_Answer_distinct, od_Answer_distinct, .func (PySem.W.fnOf "distinct" "Answer.distinct" (defArgs s_Answer_distinct) (defBody s_Answer_distinct) (defScope s_Answer_distinct) .none kV_Answer_distinct dc_Answer_distinct pm_Answer_distinct an_Answer_distinct cd_Answer_distinct ct_Answer_distinct), sl_Answer_distinct⟩)
    (c_Answer_distinct : PySem.W.codeIn K cd_Answer_distinct "Answer.distinct" = true)
    (k_Answer_distinct : PySem.W.keepIn K (.ref f_Answer_distinct) = true)
    (a_l_bag : PySem.W.nsIn K mainGlobals "_law_bag" = some (some (.ref f_l_bag)))
    (l_l_bag : K.lookup f_l_bag = some ⟨oc_l_bag, od_l_bag, .func (PySem.W.fnOf "_law_bag" "_law_bag" (defArgs s_l_bag) (defBody s_l_bag) (defScope s_l_bag) .none kV_l_bag dc_l_bag pm_l_bag an_l_bag cd_l_bag ct_l_bag), sl_l_bag⟩)
    (c_l_bag : PySem.W.codeIn K cd_l_bag "_law_bag" = true)
    (k_l_bag : PySem.W.keepIn K (.ref f_l_bag) = true)
    (a_l_draw : PySem.W.nsIn K mainGlobals "_law_draw" = some (some (.ref f_l_draw)))
    (l_l_draw : K.lookup f_l_draw = some ⟨oc_l_draw, od_l_draw, .func (PySem.W.fnOf "_law_draw" "_law_draw" (defArgs s_l_draw) (defBody s_l_draw) (defScope s_l_draw) .none kV_l_draw dc_l_draw pm_l_draw an_l_draw cd_l_draw ct_l_draw), sl_l_draw⟩)
    (c_l_draw : PySem.W.codeIn K cd_l_draw "_law_draw" = true)
    (k_l_draw : PySem.W.keepIn K (.ref f_l_draw) = true)
    (a_l_of : PySem.W.nsIn K mainGlobals "_law_of" = some (some (.ref f_l_of)))
    (l_l_of : K.lookup f_l_of = some ⟨oc_l_of, od_l_of, .func (PySem.W.fnOf "_law_of" "_law_of" (defArgs s_l_of) (defBody s_l_of) (defScope s_l_of) .none kV_l_of dc_l_of pm_l_of an_l_of cd_l_of ct_l_of), sl_l_of⟩)
    (c_l_of : PySem.W.codeIn K cd_l_of "_law_of" = true)
    (k_l_of : PySem.W.keepIn K (.ref f_l_of) = true)
    (a_l_counts : PySem.W.nsIn K mainGlobals "_law_counts" = some (some (.ref f_l_counts)))
    (l_l_counts : K.lookup f_l_counts = some ⟨oc_l_counts, od_l_counts, .func (PySem.W.fnOf "_law_counts" "_law_counts" (defArgs s_l_counts) (defBody s_l_counts) (defScope s_l_counts) .none kV_l_counts dc_l_counts pm_l_counts an_l_counts cd_l_counts ct_l_counts), sl_l_counts⟩)
    (c_l_counts : PySem.W.codeIn K cd_l_counts "_law_counts" = true)
    (k_l_counts : PySem.W.keepIn K (.ref f_l_counts) = true)
    (a_l_rows : PySem.W.nsIn K mainGlobals "_law_rows" = some (some (.ref f_l_rows)))
    (l_l_rows : K.lookup f_l_rows = some ⟨oc_l_rows, od_l_rows, .func (PySem.W.fnOf "_law_rows" "_law_rows" (defArgs s_l_rows) (defBody s_l_rows) (defScope s_l_rows) .none kV_l_rows dc_l_rows pm_l_rows an_l_rows cd_l_rows ct_l_rows), sl_l_rows⟩)
    (c_l_rows : PySem.W.codeIn K cd_l_rows "_law_rows" = true)
    (k_l_rows : PySem.W.keepIn K (.ref f_l_rows) = true)
    (a_l_refused : PySem.W.nsIn K mainGlobals "_law_refused" = some (some (.ref f_l_refused)))
    (l_l_refused : K.lookup f_l_refused = some ⟨oc_l_refused, od_l_refused, .func (PySem.W.fnOf "_law_refused" "_law_refused" (defArgs s_l_refused) (defBody s_l_refused) (defScope s_l_refused) .none kV_l_refused dc_l_refused pm_l_refused an_l_refused cd_l_refused ct_l_refused), sl_l_refused⟩)
    (c_l_refused : PySem.W.codeIn K cd_l_refused "_law_refused" = true)
    (k_l_refused : PySem.W.keepIn K (.ref f_l_refused) = true)
    (a_l_is : PySem.W.nsIn K mainGlobals "_law_is" = some (some (.ref f_l_is)))
    (l_l_is : K.lookup f_l_is = some ⟨oc_l_is, od_l_is, .func (PySem.W.fnOf "_law_is" "_law_is" (defArgs s_l_is) (defBody s_l_is) (defScope s_l_is) .none kV_l_is dc_l_is pm_l_is an_l_is cd_l_is ct_l_is), sl_l_is⟩)
    (c_l_is : PySem.W.codeIn K cd_l_is "_law_is" = true)
    (k_l_is : PySem.W.keepIn K (.ref f_l_is) = true)
    (a_l_right : PySem.W.nsIn K mainGlobals "_law_right" = some (some (.ref f_l_right)))
    (l_l_right : K.lookup f_l_right = some ⟨oc_l_right, od_l_right, .func (PySem.W.fnOf "_law_right" "_law_right" (defArgs s_l_right) (defBody s_l_right) (defScope s_l_right) .none kV_l_right dc_l_right pm_l_right an_l_right cd_l_right ct_l_right), sl_l_right⟩)
    (c_l_right : PySem.W.codeIn K cd_l_right "_law_right" = true)
    (k_l_right : PySem.W.keepIn K (.ref f_l_right) = true)
    (a_law : PySem.W.nsIn K mainGlobals "law" = some (some (.ref f_law)))
    (l_law : K.lookup f_law = some ⟨oc_law, od_law, .func (PySem.W.fnOf "law" "law" (defArgs s_law) (defBody s_law) (defScope s_law) .none kV_law dc_law pm_law an_law cd_law ct_law), sl_law⟩)
    (c_law : PySem.W.codeIn K cd_law "law" = true)
    (k_law : PySem.W.keepIn K (.ref f_law) = true)
    (ki1_TooMany_LinkedError : PySem.W.isClsIn K C_LinkedError = true)
    (ki2_TooMany_LinkedError : PySem.W.typeIn K (.ref C_LinkedError) = some (.type "type"))
    (sC_TooMany_LinkedError : PySem.W.mroIn K C_TooMany (.ref C_TooMany) = some true)
    (ki4_TooMany_LinkedError : PySem.W.mroIn K C_TooMany (.ref C_LinkedError) = some true)
    (ki1_TooMany_BadRow : PySem.W.isClsIn K C_BadRow = true)
    (ki2_TooMany_BadRow : PySem.W.typeIn K (.ref C_BadRow) = some (.type "type"))
    (sC_TooMany_BadRow : PySem.W.mroIn K C_TooMany (.ref C_TooMany) = some true)
    (ki4_TooMany_BadRow : PySem.W.mroIn K C_TooMany (.ref C_BadRow) = some false)
    (kv_TooMany : PySem.W.mroIn K C_TooMany (.type "ValueError") = some true)
    (n_TooMany_what : PySem.W.findIn K (.ref C_TooMany) "what" = some none)
    (xL_TooMany : K.lookup C_TooMany = some (excClassObj nm_TooMany q_TooMany C_TooMany N_TooMany bs_TooMany [.ref C_LinkedError, .type "ValueError", .type "Exception", .type "BaseException", .type "object"] true sn_TooMany sub_TooMany ab_TooMany col_TooMany dd_TooMany m0_TooMany m1_TooMany m2_TooMany m3_TooMany m5_TooMany "ValueError.__new__"))
    (sa_TooMany : PySem.W.findIn K (.ref C_TooMany) "__setattr__" = some (some (.builtin "object.__setattr__")))
    (eb_TooMany : PySem.W.subIn K (.ref C_TooMany) (.type "BaseException") = some true)
    (tc_TooMany : PySem.W.typeIn K (.ref C_TooMany) = some (.type "type"))
    (kc_TooMany : PySem.W.keepIn K (.ref C_TooMany) = true)
    (ga_TooMany : PySem.W.findIn K (.ref C_TooMany) "__getattribute__" = some (some (.builtin "BaseException.__getattribute__")))
    (gg_TooMany : PySem.W.findIn K (.ref C_TooMany) "__getattr__" = some none)
    (hd_TooMany : PySem.W.hasDictIn K C_TooMany = true)
    (ca_TooMany : PySem.W.findIn K (.ref C_TooMany) "__class__" = some (some (.builtin "object.__class__")))
    (cn_TooMany : PySem.W.specialIn K (.builtin "object.__class__") "__get__" = some (some (.builtin "getset_descriptor.__get__")))
    (ctk_TooMany : PySem.W.takesIn K (.builtin "object.__class__") = some true)
    (cm_TooMany : PySem.W.mroIn K C_TooMany (.type "object") = some true)
    (pg_Answer : PySem.W.plainGet K C_Answer Str.empty = true)
    (hd_Answer : PySem.W.hasDictIn K C_Answer = true)
    (po_Answer : PySem.W.plainOver K C_Answer = true)
    (sa_Answer : PySem.W.findIn K (.ref C_Answer) "__setattr__" = some (some (.builtin "object.__setattr__")))
    (kc_Answer : PySem.W.keepIn K (.ref C_Answer) = true)
    (ca_Answer : PySem.W.findIn K (.ref C_Answer) "__class__" = some (some (.builtin "object.__class__")))
    (cn_Answer : PySem.W.specialIn K (.builtin "object.__class__") "__get__" = some (some (.builtin "getset_descriptor.__get__")))
    (ctk_Answer : PySem.W.takesIn K (.builtin "object.__class__") = some true)
    (cm_Answer : PySem.W.mroIn K C_Answer (.type "object") = some true)
    (ic_Answer : PySem.W.isClsIn K C_Answer = true)
    (tc_Answer : PySem.W.typeIn K (.ref C_Answer) = some (.type "type"))
    (ne_Answer : PySem.W.findIn K (.ref C_Answer) "__ne__" = some (some (.builtin "object.__ne__")))
    (mk_Answer : PySem.W.makesIn K C_Answer = true)
    (nq_Answer : PySem.W.noSeq K C_Answer = true)
    (sf_Answer : PySem.W.selfFirst K C_Answer = true)
    (n_Answer_rows : PySem.W.findIn K (.ref C_Answer) "rows" = some none)
    (b_len : PySem.W.nsIn K mainGlobals "len" = some none)
    (b_abs : PySem.W.nsIn K mainGlobals "abs" = some none)
    (b_int : PySem.W.nsIn K mainGlobals "int" = some none)
    (b_range : PySem.W.nsIn K mainGlobals "range" = some none)
    (b_isinstance : PySem.W.nsIn K mainGlobals "isinstance" = some none)
    (b_max : PySem.W.nsIn K mainGlobals "max" = some none)
    (b_min : PySem.W.nsIn K mainGlobals "min" = some none)
    (b_sum : PySem.W.nsIn K mainGlobals "sum" = some none)
    (b_list : PySem.W.nsIn K mainGlobals "list" = some none)
    (b_tuple : PySem.W.nsIn K mainGlobals "tuple" = some none)
    (b_enumerate : PySem.W.nsIn K mainGlobals "enumerate" = some none)
    (b_bool : PySem.W.nsIn K mainGlobals "bool" = some none)
    (b_set : PySem.W.nsIn K mainGlobals "set" = some none)
    (b_sorted : PySem.W.nsIn K mainGlobals "sorted" = some none)
    (b_ValueError : PySem.W.nsIn K mainGlobals "ValueError" = some none) :
    Txt K mg ⟨f_is_integer, PySem.W.fnOf "is_integer" "is_integer" (defArgs s_is_integer) (defBody s_is_integer) (defScope s_is_integer) .none kV_is_integer dc_is_integer pm_is_integer an_is_integer cd_is_integer ct_is_integer, f_TooMany__init, PySem.W.fnOf "__init__" "TooMany.__init__" (defArgs s_TooMany__init) (defBody s_TooMany__init) (defScope s_TooMany__init) .none kV_TooMany__init dc_TooMany__init pm_TooMany__init an_TooMany__init cd_TooMany__init ct_TooMany__init, f_repeated_positions, PySem.W.fnOf "repeated_positions" "repeated_positions" (defArgs s_repeated_positions) (defBody s_repeated_positions) (defScope s_repeated_positions) .none kV_repeated_positions dc_repeated_positions pm_repeated_positions an_repeated_positions cd_repeated_positions ct_repeated_positions, f_Answer__init, PySem.W.fnOf "__init__" "Answer.__init__" (defArgs s_Answer__init) (defBody s_Answer__init) (defScope s_Answer__init) .none (.ref D_Answer__init) dc_Answer__init pm_Answer__init an_Answer__init cd_Answer__init ct_Answer__init, f_Answer__len, PySem.W.fnOf "__len__" "Answer.__len__" (defArgs s_Answer__len) (defBody s_Answer__len) (defScope s_Answer__len) .none kV_Answer__len dc_Answer__len pm_Answer__len an_Answer__len cd_Answer__len ct_Answer__len, f_Answer__contains, PySem.W.fnOf "__contains__" "Answer.__contains__" (defArgs s_Answer__contains) (defBody s_Answer__contains) (defScope s_Answer__contains) .none kV_Answer__contains dc_Answer__contains pm_Answer__contains an_Answer__contains cd_Answer__contains ct_Answer__contains, f_Answer__add, PySem.W.fnOf "__add__" "Answer.__add__" (defArgs s_Answer__add) (defBody s_Answer__add) (defScope s_Answer__add) .none kV_Answer__add dc_Answer__add pm_Answer__add an_Answer__add cd_Answer__add ct_Answer__add, f_Answer_times, PySem.W.fnOf "times" "Answer.times" (defArgs s_Answer_times) (defBody s_Answer_times) (defScope s_Answer_times) .none kV_Answer_times dc_Answer_times pm_Answer_times an_Answer_times cd_Answer_times ct_Answer_times, f_Answer_distinct, PySem.W.fnOf "distinct" "Answer.distinct" (defArgs s_Answer_distinct) (defBody s_Answer_distinct) (defScope s_Answer_distinct) .none kV_Answer_distinct dc_Answer_distinct pm_Answer_distinct an_Answer_distinct cd_Answer_distinct ct_Answer_distinct, f_l_bag, PySem.W.fnOf "_law_bag" "_law_bag" (defArgs s_l_bag) (defBody s_l_bag) (defScope s_l_bag) .none kV_l_bag dc_l_bag pm_l_bag an_l_bag cd_l_bag ct_l_bag, f_l_draw, PySem.W.fnOf "_law_draw" "_law_draw" (defArgs s_l_draw) (defBody s_l_draw) (defScope s_l_draw) .none kV_l_draw dc_l_draw pm_l_draw an_l_draw cd_l_draw ct_l_draw, f_l_of, PySem.W.fnOf "_law_of" "_law_of" (defArgs s_l_of) (defBody s_l_of) (defScope s_l_of) .none kV_l_of dc_l_of pm_l_of an_l_of cd_l_of ct_l_of, f_l_counts, PySem.W.fnOf "_law_counts" "_law_counts" (defArgs s_l_counts) (defBody s_l_counts) (defScope s_l_counts) .none kV_l_counts dc_l_counts pm_l_counts an_l_counts cd_l_counts ct_l_counts, f_l_rows, PySem.W.fnOf "_law_rows" "_law_rows" (defArgs s_l_rows) (defBody s_l_rows) (defScope s_l_rows) .none kV_l_rows dc_l_rows pm_l_rows an_l_rows cd_l_rows ct_l_rows, f_l_refused, PySem.W.fnOf "_law_refused" "_law_refused" (defArgs s_l_refused) (defBody s_l_refused) (defScope s_l_refused) .none kV_l_refused dc_l_refused pm_l_refused an_l_refused cd_l_refused ct_l_refused, f_l_is, PySem.W.fnOf "_law_is" "_law_is" (defArgs s_l_is) (defBody s_l_is) (defScope s_l_is) .none kV_l_is dc_l_is pm_l_is an_l_is cd_l_is ct_l_is, f_l_right, PySem.W.fnOf "_law_right" "_law_right" (defArgs s_l_right) (defBody s_l_right) (defScope s_l_right) .none kV_l_right dc_l_right pm_l_right an_l_right cd_l_right ct_l_right, f_law, PySem.W.fnOf "law" "law" (defArgs s_law) (defBody s_law) (defScope s_law) .none kV_law dc_law pm_law an_law cd_law ct_law, C_LinkedError, C_BadRow, C_TooMany, C_Answer⟩ where
  k_is_integer := k_is_integer
  F_is_integer := fun_mk (st := s_is_integer) l_is_integer c_is_integer k_is_integer
  a_is_integer := (fun_mk (st := s_is_integer) l_is_integer c_is_integer k_is_integer).binds (ps := ["value"]) fun _ _ _ _ _ _ us hl => match us, hl with | [_], _ => rfl
  m_is_integer := PySem.W.mg_of X Gm a_is_integer
  k_TooMany__init := k_TooMany__init
  F_TooMany__init := fun_mk (st := s_TooMany__init) l_TooMany__init c_TooMany__init k_TooMany__init
  a_TooMany__init := (fun_mk (st := s_TooMany__init) l_TooMany__init c_TooMany__init k_TooMany__init).binds (ps := ["self", "what"]) fun _ _ _ _ _ _ us hl => match us, hl with | [_, _], _ => rfl
  f_TooMany__init := a_TooMany__init
  ty_TooMany__init := ty_TooMany__init
  k_repeated_positions := k_repeated_positions
  F_repeated_positions := fun_mk (st := s_repeated_positions) l_repeated_positions c_repeated_positions k_repeated_positions
  a_repeated_positions := (fun_mk (st := s_repeated_positions) l_repeated_positions c_repeated_positions k_repeated_positions).binds (ps := ["times"]) fun _ _ _ _ _ _ us hl => match us, hl with | [_], _ => rfl
  m_repeated_positions := PySem.W.mg_of X Gm a_repeated_positions
  k_Answer__init := k_Answer__init
  F_Answer__init := ⟨⟨oc_Answer__init, od_Answer__init, _, _, dc_Answer__init, pm_Answer__init, an_Answer__init, cd_Answer__init, ct_Answer__init, sl_Answer__init, rfl, l_Answer__init, c_Answer__init, .inl ⟨rfl, rfl⟩, .inr ⟨D_Answer__init, rfl, fun q hq => by (simp only [List.mem_cons, List.not_mem_nil, or_false] at hq; rcases hq with rfl; exact ⟨_, kw_Answer__init_most, ⟨_, rfl⟩⟩)⟩⟩, k_Answer__init⟩
  a_Answer__init := FunD.binds0 (ps := ["self", "times", "most"]) (⟨⟨oc_Answer__init, od_Answer__init, _, _, dc_Answer__init, pm_Answer__init, an_Answer__init, cd_Answer__init, ct_Answer__init, sl_Answer__init, rfl, l_Answer__init, c_Answer__init, .inl ⟨rfl, rfl⟩, .inr ⟨D_Answer__init, rfl, fun q hq => by (simp only [List.mem_cons, List.not_mem_nil, or_false] at hq; rcases hq with rfl; exact ⟨_, kw_Answer__init_most, ⟨_, rfl⟩⟩)⟩⟩, k_Answer__init⟩ : FunD K "__init__" "Answer.__init__" (defArgs s_Answer__init) (defBody s_Answer__init) (defScope s_Answer__init) [] [("most", .int 3000)] _ _) 2 (by simp) rfl fun _ _ _ _ _ _ us ks h1 h2 => match us, ks, h1, h2 with | [_, _], [_], _, _ => ⟨_, _, _, _, _, _, rfl, rfl, rfl⟩
  kb_Answer__init := FunD.kbinds0 (ps := ["self", "times", "most"]) (⟨⟨oc_Answer__init, od_Answer__init, _, _, dc_Answer__init, pm_Answer__init, an_Answer__init, cd_Answer__init, ct_Answer__init, sl_Answer__init, rfl, l_Answer__init, c_Answer__init, .inl ⟨rfl, rfl⟩, .inr ⟨D_Answer__init, rfl, fun q hq => by (simp only [List.mem_cons, List.not_mem_nil, or_false] at hq; rcases hq with rfl; exact ⟨_, kw_Answer__init_most, ⟨_, rfl⟩⟩)⟩⟩, k_Answer__init⟩ : FunD K "__init__" "Answer.__init__" (defArgs s_Answer__init) (defBody s_Answer__init) (defScope s_Answer__init) [] [("most", .int 3000)] _ _) 2 ["most"] [] (fun us mv ws => us ++ ws) (by simp) (fun q hq => by cases hq) (fun r1 _ r3 => r1.append r3) fun _ _ _ _ _ _ us mv ws h1 h2 h3 => match us, mv, ws, h1, h2, h3 with | [_, _], [], [_], _, _, _ => rfl
  t_Answer__init := ⟨a_Answer__init, i_Answer__init, k_Answer__init⟩
  f_Answer__init := a_Answer__init
  i_Answer__init := i_Answer__init
  fi_Answer__init := fi_Answer__init
  k_Answer__len := k_Answer__len
  F_Answer__len := fun_mk (st := s_Answer__len) l_Answer__len c_Answer__len k_Answer__len
  a_Answer__len := (fun_mk (st := s_Answer__len) l_Answer__len c_Answer__len k_Answer__len).binds (ps := ["self"]) fun _ _ _ _ _ _ us hl => match us, hl with | [_], _ => rfl
  t_Answer__len := ⟨a_Answer__len, i_Answer__len, k_Answer__len⟩
  f_Answer__len := a_Answer__len
  i_Answer__len := i_Answer__len
  fi_Answer__len := fi_Answer__len
  k_Answer__contains := k_Answer__contains
  F_Answer__contains := fun_mk (st := s_Answer__contains) l_Answer__contains c_Answer__contains k_Answer__contains
  a_Answer__contains := (fun_mk (st := s_Answer__contains) l_Answer__contains c_Answer__contains k_Answer__contains).binds (ps := ["self", "position"]) fun _ _ _ _ _ _ us hl => match us, hl with | [_, _], _ => rfl
  t_Answer__contains := ⟨a_Answer__contains, i_Answer__contains, k_Answer__contains⟩
  f_Answer__contains := a_Answer__contains
  i_Answer__contains := i_Answer__contains
  fi_Answer__contains := fi_Answer__contains
  k_Answer__add := k_Answer__add
  F_Answer__add := fun_mk (st := s_Answer__add) l_Answer__add c_Answer__add k_Answer__add
  a_Answer__add := (fun_mk (st := s_Answer__add) l_Answer__add c_Answer__add k_Answer__add).binds (ps := ["self", "other"]) fun _ _ _ _ _ _ us hl => match us, hl with | [_, _], _ => rfl
  t_Answer__add := ⟨a_Answer__add, i_Answer__add, k_Answer__add⟩
  f_Answer__add := a_Answer__add
  i_Answer__add := i_Answer__add
  fi_Answer__add := fi_Answer__add
  k_Answer_times := k_Answer_times
  F_Answer_times := fun_mk (st := s_Answer_times) l_Answer_times c_Answer_times k_Answer_times
  a_Answer_times := (fun_mk (st := s_Answer_times) l_Answer_times c_Answer_times k_Answer_times).binds (ps := ["self", "position"]) fun _ _ _ _ _ _ us hl => match us, hl with | [_, _], _ => rfl
  t_Answer_times := ⟨a_Answer_times, i_Answer_times, k_Answer_times⟩
  f_Answer_times := a_Answer_times
  i_Answer_times := i_Answer_times
  fi_Answer_times := fi_Answer_times
  k_Answer_distinct := k_Answer_distinct
  F_Answer_distinct := fun_mk (st := s_Answer_distinct) l_Answer_distinct c_Answer_distinct k_Answer_distinct
  a_Answer_distinct := (fun_mk (st := s_Answer_distinct) l_Answer_distinct c_Answer_distinct k_Answer_distinct).binds (ps := ["self"]) fun _ _ _ _ _ _ us hl => match us, hl with | [_], _ => rfl
  t_Answer_distinct := ⟨a_Answer_distinct, i_Answer_distinct, k_Answer_distinct⟩
  f_Answer_distinct := a_Answer_distinct
  i_Answer_distinct := i_Answer_distinct
  fi_Answer_distinct := fi_Answer_distinct
  k_l_bag := k_l_bag
  F_l_bag := fun_mk (st := s_l_bag) l_l_bag c_l_bag k_l_bag
  a_l_bag := (fun_mk (st := s_l_bag) l_l_bag c_l_bag k_l_bag).binds (ps := ["_law_script", "_law_at"]) fun _ _ _ _ _ _ us hl => match us, hl with | [_, _], _ => rfl
  m_l_bag := PySem.W.mg_of X Gm a_l_bag
  k_l_draw := k_l_draw
  F_l_draw := fun_mk (st := s_l_draw) l_l_draw c_l_draw k_l_draw
  a_l_draw := (fun_mk (st := s_l_draw) l_l_draw c_l_draw k_l_draw).binds (ps := ["_law_bag_here", "_law_many"]) fun _ _ _ _ _ _ us hl => match us, hl with | [_, _], _ => rfl
  m_l_draw := PySem.W.mg_of X Gm a_l_draw
  k_l_of := k_l_of
  F_l_of := fun_mk (st := s_l_of) l_l_of c_l_of k_l_of
  a_l_of := (fun_mk (st := s_l_of) l_l_of c_l_of k_l_of).binds (ps := ["_law_bag_here", "_law_some"]) fun _ _ _ _ _ _ us hl => match us, hl with | [_, _], _ => rfl
  m_l_of := PySem.W.mg_of X Gm a_l_of
  k_l_counts := k_l_counts
  F_l_counts := fun_mk (st := s_l_counts) l_l_counts c_l_counts k_l_counts
  a_l_counts := (fun_mk (st := s_l_counts) l_l_counts c_l_counts k_l_counts).binds (ps := ["_law_bag_here"]) fun _ _ _ _ _ _ us hl => match us, hl with | [_], _ => rfl
  m_l_counts := PySem.W.mg_of X Gm a_l_counts
  k_l_rows := k_l_rows
  F_l_rows := fun_mk (st := s_l_rows) l_l_rows c_l_rows k_l_rows
  a_l_rows := (fun_mk (st := s_l_rows) l_l_rows c_l_rows k_l_rows).binds (ps := ["_law_counts_here"]) fun _ _ _ _ _ _ us hl => match us, hl with | [_], _ => rfl
  m_l_rows := PySem.W.mg_of X Gm a_l_rows
  k_l_refused := k_l_refused
  F_l_refused := fun_mk (st := s_l_refused) l_l_refused c_l_refused k_l_refused
  a_l_refused := (fun_mk (st := s_l_refused) l_l_refused c_l_refused k_l_refused).binds (ps := ["_law_counts_here"]) fun _ _ _ _ _ _ us hl => match us, hl with | [_], _ => rfl
  m_l_refused := PySem.W.mg_of X Gm a_l_refused
  k_l_is := k_l_is
  F_l_is := fun_mk (st := s_l_is) l_l_is c_l_is k_l_is
  a_l_is := (fun_mk (st := s_l_is) l_l_is c_l_is k_l_is).binds (ps := ["_law_told", "_law_rows_here"]) fun _ _ _ _ _ _ us hl => match us, hl with | [_, _], _ => rfl
  m_l_is := PySem.W.mg_of X Gm a_l_is
  k_l_right := k_l_right
  F_l_right := fun_mk (st := s_l_right) l_l_right c_l_right k_l_right
  a_l_right := (fun_mk (st := s_l_right) l_l_right c_l_right k_l_right).binds (ps := ["_law_bag_here"]) fun _ _ _ _ _ _ us hl => match us, hl with | [_], _ => rfl
  m_l_right := PySem.W.mg_of X Gm a_l_right
  k_law := k_law
  F_law := fun_mk (st := s_law) l_law c_law k_law
  a_law := (fun_mk (st := s_law) l_law c_law k_law).binds (ps := ["_law_script"]) fun _ _ _ _ _ _ us hl => match us, hl with | [_], _ => rfl
  m_law := PySem.W.mg_of X Gm a_law
  ks_TooMany_LinkedError := kit_refs ki1_TooMany_LinkedError ki2_TooMany_LinkedError sC_TooMany_LinkedError ki4_TooMany_LinkedError
  ks_TooMany_BadRow := kit_refs ki1_TooMany_BadRow ki2_TooMany_BadRow sC_TooMany_BadRow ki4_TooMany_BadRow
  ks_TooMany_VE := kit_refTyB (by decide +kernel) kv_TooMany
  m_LinkedError := PySem.W.mg_of X Gm aC_LinkedError
  m_BadRow := PySem.W.mg_of X Gm aC_BadRow
  m_TooMany := PySem.W.mg_of X Gm aC_TooMany
  n_TooMany_what := n_TooMany_what
  e_TooMany := ⟨⟨⟨_, _, _, _, _, _, _, _, _, _, _, _, _, _, _, xL_TooMany, (show PySem.HandSPX.refsVE [.type "ValueError", .type "Exception", .type "BaseException", .type "object"] = true from by decide +kernel)⟩, sa_TooMany, eb_TooMany, tc_TooMany, kc_TooMany⟩, ga_TooMany, gg_TooMany, hd_TooMany, ca_TooMany, cn_TooMany, ctk_TooMany, cm_TooMany⟩
  ct_Answer := ⟨⟨pg_Answer, hd_Answer, po_Answer, sa_Answer⟩, ca_Answer, cn_Answer, ctk_Answer, cm_Answer, isc_mk ic_Answer tc_Answer, ne_Answer⟩
  m_Answer := PySem.W.mg_of X Gm aC_Answer
  mk_Answer := ⟨mk_Answer, a_Answer__init, i_Answer__init, kc_Answer⟩
  nq_Answer := nq_Answer
  sf_Answer := sf_Answer
  n_Answer_rows := n_Answer_rows
  b_len := PySem.W.mg_none_of X Gm b_len
  b_abs := PySem.W.mg_none_of X Gm b_abs
  b_int := PySem.W.mg_none_of X Gm b_int
  b_range := PySem.W.mg_none_of X Gm b_range
  b_isinstance := PySem.W.mg_none_of X Gm b_isinstance
  b_max := PySem.W.mg_none_of X Gm b_max
  b_min := PySem.W.mg_none_of X Gm b_min
  b_sum := PySem.W.mg_none_of X Gm b_sum
  b_list := PySem.W.mg_none_of X Gm b_list
  b_tuple := PySem.W.mg_none_of X Gm b_tuple
  b_enumerate := PySem.W.mg_none_of X Gm b_enumerate
  b_bool := PySem.W.mg_none_of X Gm b_bool
  b_set := PySem.W.mg_none_of X Gm b_set
  b_sorted := PySem.W.mg_none_of X Gm b_sorted
  b_ValueError := PySem.W.mg_none_of X Gm b_ValueError
theorem all_mk {l : PySem.W.OpenLaw} {w : World} {K : PySem.W.Frag} {h : Heap} {mg : Str → Option Value} {fa : Addr} {a : Ad} {kV' dc pm cd ct : Value} {an : Option Addr} (hfa : mg "law" = some (.ref fa)) (T : Txt K mg a) (e0 : a.d_law = PySem.W.fnOf "law" "law" (defArgs s_law) (defBody s_law) (defScope s_law) .none kV' dc pm an cd ct) :
    ∃ fd : FuncData, (∀ (s : Shared) (v : Value), BindsTo s fd ⟨[v], []⟩ [("_law_script", v)]) ∧ ∀ base : Heap, K.In base → base.Ns mainGlobals mg → FnOk l.prog w K mg base CX0 7 fa fd ["_law_script"] (spLaw K) := by
  have e := hfa.symm.trans T.m_law
  cases e
  refine ⟨a.d_law, fun s v => by rw [e0]; exact .of_eq rfl, fun base _ _ => ok_law T⟩
theorem walk {l : PySem.W.OpenLaw} {q : Program} {loose : List Str} {XP : (Str → Option Value) → Heap → Prop} {YP : World → Heap → Prop} {d : DefRec} {K : Params → PySem.W.Frag} (hn : l.most = some 63) (hdf : d.params.defaults = [])
    (hY : ∀ (w : World) (h : Heap), YP w h → (K w.params).In h)
    (F : ∀ (w : World) (mg : Str → Option Value) (fa : Addr) (h : Heap), (K w.params).In h → h.Ns mainGlobals mg → mg d.name = some (.ref fa) →
      ∃ fd : FuncData, (∀ (s : Shared) (u : Value), BindsTo s fd ⟨[u], []⟩ [("_law_script", u)]) ∧ ∀ base : Heap, (K w.params).In base → base.Ns mainGlobals mg → FnOk l.prog w (K w.params) mg base CX0 7 fa fd ["_law_script"] (spLaw (K w.params))) :
    PySem.W.WalkO q loose XP YP l.row.toRowW d [] (fun f vs => PySem.call f vs) :=
  L2.walk_of (n := 63) (k := 7) (x := "_law_script") (CX := fun _ => CX0) (sp := fun w => spLaw (K w.params)) hn (by decide) hdf ⟨rfl, by decide, by decide⟩ hY F (fun _ _ a ns hl _ hS => ⟨a, ns, rfl, hS, hl, fun _ => rfl⟩) fun _ _ _ _ _ z => z
end Toy
open PySem PySem.W PyProof.Rows
set_option maxRecDepth 100000 in
set_option maxHeartbeats 0 in
theorem PySem.Challenge.cw_linkedfilters_k58_answers_put_together_holds : PySem.Challenge.rw_linkedfilters_k58_answers_put_together.Holds := by
  w_on; o_law; k_head; (case hw => w_witness2)
  k_fill
  refine Toy.walk (l := PySem.Challenge.rw_linkedfilters_k58_answers_put_together) rfl rfl (fun w h Y => PySem.W.kIn_of Y) ?F
  case F =>
    intro w mg fa h KX G hmg
    refine' Toy.all_mk (h := h) hmg (Toy.txt_mk KX G ?h_aC_LinkedError ?h_aC_BadRow ?h_aC_TooMany ?h_aC_Answer ?h_a_is_integer ?h_l_is_integer ?h_c_is_integer ?h_k_is_integer ?h_a_TooMany__init ?h_ty_TooMany__init ?h_l_TooMany__init ?h_c_TooMany__init ?h_k_TooMany__init ?h_a_repeated_positions ?h_l_repeated_positions ?h_c_repeated_positions ?h_k_repeated_positions ?h_a_Answer__init ?h_i_Answer__init ?h_fi_Answer__init ?h_l_Answer__init ?h_kw_Answer__init_most ?h_c_Answer__init ?h_k_Answer__init ?h_a_Answer__len ?h_i_Answer__len ?h_fi_Answer__len ?h_l_Answer__len ?h_c_Answer__len ?h_k_Answer__len ?h_a_Answer__contains ?h_i_Answer__contains ?h_fi_Answer__contains ?h_l_Answer__contains ?h_c_Answer__contains ?h_k_Answer__contains ?h_a_Answer__add ?h_i_Answer__add ?h_fi_Answer__add ?h_l_Answer__add ?h_c_Answer__add ?h_k_Answer__add ?h_a_Answer_times ?h_i_Answer_times ?h_fi_Answer_times ?h_l_Answer_times ?h_c_Answer_times ?h_k_Answer_times ?h_a_Answer_distinct ?h_i_Answer_distinct ?h_fi_Answer_distinct ?h_l_Answer_distinct ?h_c_Answer_distinct ?h_k_Answer_distinct ?h_a_l_bag ?h_l_l_bag ?h_c_l_bag ?h_k_l_bag ?h_a_l_draw ?h_l_l_draw ?h_c_l_draw ?h_k_l_draw ?h_a_l_of ?h_l_l_of ?h_c_l_of ?h_k_l_of ?h_a_l_counts ?h_l_l_counts ?h_c_l_counts ?h_k_l_counts ?h_a_l_rows ?h_l_l_rows ?h_c_l_rows ?h_k_l_rows ?h_a_l_refused ?h_l_l_refused ?h_c_l_refused ?h_k_l_refused ?h_a_l_is ?h_l_l_is ?h_c_l_is ?h_k_l_is ?h_a_l_right ?h_l_l_right ?h_c_l_right ?h_k_l_right ?h_a_law ?h_l_law ?h_c_law ?h_k_law ?h_ki1_TooMany_LinkedError ?h_ki2_TooMany_LinkedError ?h_sC_TooMany_LinkedError ?h_ki4_TooMany_LinkedError ?h_ki1_TooMany_BadRow ?h_ki2_TooMany_BadRow ?h_sC_TooMany_BadRow ?h_ki4_TooMany_BadRow ?h_kv_TooMany ?h_n_TooMany_what ?h_xL_TooMany ?h_sa_TooMany ?h_eb_TooMany ?h_tc_TooMany ?h_kc_TooMany ?h_ga_TooMany ?h_gg_TooMany ?h_hd_TooMany ?h_ca_TooMany ?h_cn_TooMany ?h_ctk_TooMany ?h_cm_TooMany ?h_pg_Answer ?h_hd_Answer ?h_po_Answer ?h_sa_Answer ?h_kc_Answer ?h_ca_Answer ?h_cn_Answer ?h_ctk_Answer ?h_cm_Answer ?h_ic_Answer ?h_tc_Answer ?h_ne_Answer ?h_mk_Answer ?h_nq_Answer ?h_sf_Answer ?h_n_Answer_rows ?h_b_len ?h_b_abs ?h_b_int ?h_b_range ?h_b_isinstance ?h_b_max ?h_b_min ?h_b_sum ?h_b_list ?h_b_tuple ?h_b_enumerate ?h_b_bool ?h_b_set ?h_b_sorted ?h_b_ValueError) rfl
    (case h_aC_LinkedError => k_is); (case h_aC_BadRow => k_is); (case h_aC_TooMany => k_is); (case h_aC_Answer => k_is); (case h_a_is_integer => k_is); (case h_l_is_integer => k_is)
    (case h_c_is_integer => k_is); (case h_k_is_integer => k_is); (case h_a_TooMany__init => k_is); (case h_ty_TooMany__init => k_is); (case h_l_TooMany__init => k_is); (case h_c_TooMany__init => k_is)
    (case h_k_TooMany__init => k_is); (case h_a_repeated_positions => k_is); (case h_l_repeated_positions => k_is); (case h_c_repeated_positions => k_is); (case h_k_repeated_positions => k_is); (case h_a_Answer__init => k_is)
    (case h_i_Answer__init => k_is); (case h_fi_Answer__init => k_is); (case h_l_Answer__init => k_is); (case h_kw_Answer__init_most => k_is); (case h_c_Answer__init => k_is); (case h_k_Answer__init => k_is)
    (case h_a_Answer__len => k_is); (case h_i_Answer__len => k_is); (case h_fi_Answer__len => k_is); (case h_l_Answer__len => k_is); (case h_c_Answer__len => k_is); (case h_k_Answer__len => k_is)
    (case h_a_Answer__contains => k_is); (case h_i_Answer__contains => k_is); (case h_fi_Answer__contains => k_is); (case h_l_Answer__contains => k_is); (case h_c_Answer__contains => k_is); (case h_k_Answer__contains => k_is)
    (case h_a_Answer__add => k_is); (case h_i_Answer__add => k_is); (case h_fi_Answer__add => k_is); (case h_l_Answer__add => k_is); (case h_c_Answer__add => k_is); (case h_k_Answer__add => k_is)
    (case h_a_Answer_times => k_is); (case h_i_Answer_times => k_is); (case h_fi_Answer_times => k_is); (case h_l_Answer_times => k_is); (case h_c_Answer_times => k_is); (case h_k_Answer_times => k_is)
    (case h_a_Answer_distinct => k_is); (case h_i_Answer_distinct => k_is); (case h_fi_Answer_distinct => k_is); (case h_l_Answer_distinct => k_is); (case h_c_Answer_distinct => k_is); (case h_k_Answer_distinct => k_is)
    (case h_a_l_bag => k_is); (case h_l_l_bag => k_is); (case h_c_l_bag => k_is); (case h_k_l_bag => k_is); (case h_a_l_draw => k_is); (case h_l_l_draw => k_is)
    (case h_c_l_draw => k_is); (case h_k_l_draw => k_is); (case h_a_l_of => k_is); (case h_l_l_of => k_is); (case h_c_l_of => k_is); (case h_k_l_of => k_is)
    (case h_a_l_counts => k_is); (case h_l_l_counts => k_is); (case h_c_l_counts => k_is); (case h_k_l_counts => k_is); (case h_a_l_rows => k_is); (case h_l_l_rows => k_is)
    (case h_c_l_rows => k_is); (case h_k_l_rows => k_is); (case h_a_l_refused => k_is); (case h_l_l_refused => k_is); (case h_c_l_refused => k_is); (case h_k_l_refused => k_is)
    (case h_a_l_is => k_is); (case h_l_l_is => k_is); (case h_c_l_is => k_is); (case h_k_l_is => k_is); (case h_a_l_right => k_is); (case h_l_l_right => k_is)
    (case h_c_l_right => k_is); (case h_k_l_right => k_is); (case h_a_law => k_is); (case h_l_law => k_is); (case h_c_law => k_is); (case h_k_law => k_is)
    (case h_ki1_TooMany_LinkedError => k_is); (case h_ki2_TooMany_LinkedError => k_is); (case h_sC_TooMany_LinkedError => first | rfl | k_is); (case h_ki4_TooMany_LinkedError => k_is); (case h_ki1_TooMany_BadRow => k_is); (case h_ki2_TooMany_BadRow => k_is)
    (case h_sC_TooMany_BadRow => first | rfl | k_is); (case h_ki4_TooMany_BadRow => k_is); (case h_kv_TooMany => k_is); (case h_n_TooMany_what => k_is); (case h_xL_TooMany => k_is); (case h_sa_TooMany => k_is)
    (case h_eb_TooMany => k_is); (case h_tc_TooMany => k_is); (case h_kc_TooMany => k_is); (case h_ga_TooMany => k_is); (case h_gg_TooMany => k_is); (case h_hd_TooMany => k_is)
    (case h_ca_TooMany => k_is); (case h_cn_TooMany => k_is); (case h_ctk_TooMany => k_is); (case h_cm_TooMany => k_is); (case h_pg_Answer => k_is); (case h_hd_Answer => k_is)
    (case h_po_Answer => k_is); (case h_sa_Answer => k_is); (case h_kc_Answer => k_is); (case h_ca_Answer => k_is); (case h_cn_Answer => k_is); (case h_ctk_Answer => k_is)
    (case h_cm_Answer => k_is); (case h_ic_Answer => k_is); (case h_tc_Answer => k_is); (case h_ne_Answer => k_is); (case h_mk_Answer => k_is); (case h_nq_Answer => k_is)
    (case h_sf_Answer => k_is); (case h_n_Answer_rows => k_is); (case h_b_len => k_is); (case h_b_abs => k_is); (case h_b_int => k_is); (case h_b_range => k_is)
    (case h_b_isinstance => k_is); (case h_b_max => k_is); (case h_b_min => k_is); (case h_b_sum => k_is); (case h_b_list => k_is); (case h_b_tuple => k_is)
    (case h_b_enumerate => k_is); (case h_b_bool => k_is); (case h_b_set => k_is); (case h_b_sorted => k_is); (case h_b_ValueError => k_is)

