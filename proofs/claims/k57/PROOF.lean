import PyProof.Rows.All
import Wide.All
import OpenK.AllK
import Wide.FinOn
import HandS.ForMost
import HandS.More
import HandS.IsInst
import HandS.ClsMeth
import HandS.FStr
import KE.KCallOwn
import KE.KFmtOwn
import HandS.TupAny
import HandS.SetFor
import HandS.Conv
import HandS.Defaults
import HandS.MakeKwOnly
import HandS.Walk
import PySem.Challenge.RW_linkedfilters_k57_answers_made
set_option Elab.async false
set_option linter.all false
set_option maxRecDepth 100000
set_option maxHeartbeats 4000000
/-! Rules of our own: ==, != and str by own methods of a plain class, a class called from a slot. -/
namespace Lf
open PySem PySem.Spec PyProof.Rows L2

section
variable {prog : Program} {w : World} {A : Around} {E : Value → Shared → Prop} {s : Shared} {K : PySem.W.Frag} {x C f : Addr} {ox : Obj} {od : Option Obj} {b tb : Value}
theorem ifBound_objNe {M : Model} {args : List Value} {Q : Option Value → Shared → Prop} (X : K.In s.heap) (I : PySem.W.InstAt s.heap x ox C od)
    (hs : PySem.W.findIn K (.ref C) "__ne__" = some (some (.builtin "object.__ne__")))
    (h : wpAny M A (call (.builtin "object.__ne__") (.ref x :: args)) (fun v => Q (some v)) E s) : wpAny M A (callSpecialIfBound? (.ref x) "__ne__" args) Q E s := by
  simp only [callSpecialIfBound?, bindSpecialIfBound?]
  refine wpAny_holding (wpAny_bind (wpAny_bind (wpAny_bind (I.type.here ((PySem.W.looks_findIn X hs).here ?_)))))
  refine wpAny_bind (wpAny_askSetting (wpAny_ite ?_))
  have fin : wpAny M A (call (.builtin "object.__ne__") ([.ref x] ++ args) >>= fun v => pure (some v)) Q E s :=
    wpAny_bind (wpAny_mono h (fun v s' h' => wpAny_pure h') fun _ _ h' => h')
  split
  · exact wpAny_bind (wpAny_of_eq (F.cmp_object.ne.bind _) (wpAny_pure (by exact fin)))
  · exact wpAny_tryCatch (wpAny_bind (wpAny_of_eq (F.cmp_object.ne.bind _) (wpAny_pure (by exact fin))))
theorem call_objNe {Q : Value → Shared → Prop} (hu : A.in1.units < cLine) (X : K.In s.heap) (I : PySem.W.InstAt s.heap x ox C od) (hm : PySem.W.mroIn K C (.type "object") = some true)
    (hs : PySem.W.findIn K (.ref C) "__eq__" = some (some (.ref f))) (hf : PySem.W.isFn K (.ref f) = true)
    (h : wpAny (model prog w) A.in1 (call (.ref f) [.ref x, b]) (fun v s' => ∃ k, v = .bool k ∧ Q (.bool (!k)) s') E s) :
    wpAny (model prog w) A (call (.builtin "object.__ne__") [.ref x, b]) Q E s := by
  refine wpAny_call (codeAny_call_builtin F.cmp_object.ne.plain F.cmpEntry_ne (PySem.W.check_slot F.cmpKind_ne F.cmpSplit_ne (I.type.andThen (PySem.W.looks_mroIn X hm)) (F.cmpArgs_ne _ _) ?_))
  unfold Builtin.«object.__ne__»
  refine wpAny_bind (m := slotArgs "__ne__" 1 _) (wpAny_pure ?_)
  refine wpAny_bind (m := cRoomFor _ _) (wpAny_cRoomFor hu ?_)
  refine wpAny_bind (m := callSpecialIfBound? (.ref x) (Str.ofString "__eq__") _) (PySem.W.ifBound_K X I hs hf (wpAny_mono h (fun r s' hq => ?_) fun _ _ y => y))
  obtain ⟨k, rfl, hq⟩ := hq
  exact wpAny_bind (wpAny_truthy_bool (wpAny_pure hq))
/-- x != b by an own __eq__ that answers a bool -/
theorem cmp_ne_K {Q : Value → Shared → Prop} (hu : A.units < cLine) (hu1 : A.in1.units < cLine) (X : K.In s.heap) (I : PySem.W.InstAt s.heap x ox C od)
    (hb : PySem.W.Looks (model prog w) s.heap (typeOf b) tb) (hn : PySem.W.notFirst K C tb = true) (hm : PySem.W.mroIn K C (.type "object") = some true)
    (hne : PySem.W.findIn K (.ref C) "__ne__" = some (some (.builtin "object.__ne__"))) (hs : PySem.W.findIn K (.ref C) "__eq__" = some (some (.ref f))) (hf : PySem.W.isFn K (.ref f) = true)
    (h : wpAny (model prog w) A.in1 (call (.ref f) [.ref x, b]) (fun v s' => ∃ k, v = .bool k ∧ Q (.bool (!k)) s') E s) :
    wpAny (model prog w) A (richCompare .NotEq (.ref x) b) Q E s := by
  have one : wpAny (model prog w) A (tryCompare (.ref x) "__ne__" b) (fun r s' => ∃ v, r = some v ∧ Q v s') E s := by
    unfold tryCompare
    refine wpAny_bind (ifBound_objNe X I hne (call_objNe hu1 X I hm hs hf (wpAny_mono h (fun v s' hv => ?_) fun _ _ e => e)))
    obtain ⟨k, rfl, hq⟩ := hv
    exact ⟨k, rfl, wpAny_pure ⟨_, rfl, hq⟩⟩
  unfold richCompare
  simp only [oneThing_ref]
  refine wpAny_holding (wpAny_bind (wpAny_cRoomFor hu ?_))
  refine wpAny_bind (I.type.here (wpAny_bind (hb.here ?_)))
  split
  · rename_i q
    have e : PySem.W.subIn K tb (.ref C) = some false := by
      rcases Bool.or_eq_true_iff.mp hn with e | e
      · rw [beq_iff_eq.mp e] at q; simp at q
      · exact beq_iff_eq.mp e
    refine wpAny_bind ((PySem.W.looks_subIn X e).here ?_)
    simp only [Bool.false_eq_true, if_false]
    refine wpAny_bind (wpAny_mono one (fun r s' z => ?_) fun _ _ e => e)
    obtain ⟨v, rfl, hq⟩ := z
    exact wpAny_pure hq
  · refine wpAny_bind (wpAny_pure ?_)
    simp only [Bool.false_eq_true, if_false]
    refine wpAny_bind (wpAny_mono one (fun r s' z => ?_) fun _ _ e => e)
    obtain ⟨v, rfl, hq⟩ := z
    exact wpAny_pure hq
end

theorem cmpback {P : Value → Shared → Prop} {z : V} {v : Value} {s' : Shared} (r : RelV z v) (h : P v s') : PySem.W.CmpBack P v s' := by
  cases z with
  | non => cases (show v = Value.none from r); exact h
  | bl b => cases (show v = Value.bool b from r); exact h
  | int i => obtain ⟨t, e⟩ := (show ∃ t, v = Value.int i t from r); cases e; exact h
  | str x => obtain ⟨t, e⟩ := (show ∃ t, v = Value.str x t from r); cases e; exact h
  | byt b => obtain ⟨t, e⟩ := (show ∃ t, v = Value.bytes b t from r); cases e; exact h
  | flt b => obtain ⟨t, e⟩ := (show ∃ t, v = Value.float b t from r); cases e; exact h
  | ref a => cases (show v = Value.ref a from r); exact h
  | ty n => cases (show v = Value.type n from r); exact h

section
variable {X : Cx} {CX : CXT} {pins : List (Addr × Obj)} {σ : L2.St} {H : Hp} {s : Shared} {a C dx p g : Addr} {fs : List (Str × V)} {n : Nat} {sp : Sp} {E : XK}
theorem run_atR {A : Around} {Q : VK} {us : List Value} {ws : List V} (F : FnR X.prog X.w X.K X.mg X.base CX n g sp) (hr : Room n A) (e0 : Env0 X.prog X.w X.K X.mg X.base A X.stack s H) (hx : Passes CX X E)
    (I : Inv X pins σ H s) (r : Vals ws us) (h : sp ws H Q E) :
    codeAny (model X.prog X.w) A (.call (.ref g) ⟨us, []⟩) (fun r s' => match r with | .ok (.ret v) => EP X pins σ Q v s' | .ok _ => False | .error e => X.xe e s') s := by
  refine codeAny_mono (F A X.stack s H us ws Q E hr e0 r h) fun r s' hq => ?_
  cases r with
  | error e => exact hx pins σ H s e s' I hq
  | ok fl =>
    cases fl with
    | ret u => exact I.after hq
    | next => exact False.elim hq
    | brk => exact False.elim hq
    | cont => exact False.elim hq
/-- x == y, x an instance of C with an own __eq__ -/
def rOwnEq (K : PySem.W.Frag) (C : Addr) (sp : Sp) (E : XK) : R2 := fun x y H Q => ∃ (a dx : Addr) (fs : List (Str × V)) (t : Value), x = .ref a ∧ H a = some (.ins C dx fs) ∧ TyX K H y t ∧ PySem.W.notFirst K C t = true ∧ sp [x, y] H Q E
def rOwnNe (K : PySem.W.Frag) (C : Addr) (sp : Sp) (E : XK) : R2 := fun x y H Q => ∃ (a dx : Addr) (fs : List (Str × V)) (t : Value), x = .ref a ∧ H a = some (.ins C dx fs) ∧ TyX K H y t ∧ PySem.W.notFirst K C t = true ∧
  sp [x, y] H (fun v H' => ∃ k, v = .bl k ∧ Q (.bl (!k)) H') E
theorem op_ownEq (hs : PySem.W.findIn X.K (.ref C) "__eq__" = some (some (.ref g))) (hf : PySem.W.isFn X.K (.ref g) = true) (F : FnR X.prog X.w X.K X.mg X.base CX n g sp) (hr : Room n X.A) (hx : Passes CX X E) :
    OpR X (compareOp .Eq) (rOwnEq X.K C sp E) := by
  intro pins s σ H x y v u Q I rx ry h
  obtain ⟨a, dx, fs, t, rfl, ha, ty, hn, q⟩ := h
  cases (show v = Value.ref a from rx)
  obtain ⟨mA, O, _⟩ := ins_get I.hok ha
  obtain ⟨od, J, _⟩ := O.look
  obtain ⟨P, Z, hp, _⟩ := kit_of I ry ty
  obtain ⟨m, hF⟩ := I.fr
  show wpAny _ _ (richCompare .Eq (.ref a) u) _ _ _
  refine PySem.W.cmp_K (op := .Eq) (tb := t) hr.units0 hF I.ok.mod.kin J (Z.ty _ _ I.kIn hp) hn hs hf ?_
  refine wpAny_mono (wpAny_call (run_fnR (us := [.ref a, u]) (vs := [.ref a, y]) F hr hx I (.cons rfl (.cons ry .nil)) q)) (fun w s' z => ?_) fun _ _ x => x
  obtain ⟨z', H', I', rz, qz⟩ := z
  exact cmpback rz ⟨z', H', I', rz, qz⟩
theorem op_ownNe (hm : PySem.W.mroIn X.K C (.type "object") = some true) (hne : PySem.W.findIn X.K (.ref C) "__ne__" = some (some (.builtin "object.__ne__")))
    (hs : PySem.W.findIn X.K (.ref C) "__eq__" = some (some (.ref g))) (hf : PySem.W.isFn X.K (.ref g) = true) (F : FnR X.prog X.w X.K X.mg X.base CX n g sp) (hr : Room (n + 1) X.A) (hx : Passes CX X E) :
    OpR X (compareOp .NotEq) (rOwnNe X.K C sp E) := by
  intro pins s σ H x y v u Q I rx ry h
  obtain ⟨a, dx, fs, t, rfl, ha, ty, hn, q⟩ := h
  cases (show v = Value.ref a from rx)
  obtain ⟨mA, O, _⟩ := ins_get I.hok ha
  obtain ⟨od, J, _⟩ := O.look
  obtain ⟨P, Z, hp, _⟩ := kit_of I ry ty
  show wpAny _ _ (richCompare .NotEq (.ref a) u) _ _ _
  refine cmp_ne_K (tb := t) hr.units0 hr.in1.units0 I.kIn J (Z.ty _ _ I.kIn hp) hn hm hne hs hf ?_
  refine wpAny_mono (wpAny_call (run_atR (us := [.ref a, u]) (ws := [.ref a, y]) F hr.in1 I.env0.in1 hx I (.cons rfl (.cons ry .nil)) q)) (fun w s' z => ?_) fun _ _ x => x
  obtain ⟨z', H', I', rz, k, ek, qz⟩ := z
  subst ek
  exact ⟨k, rz, .bl (!k), H', I', rfl, qz⟩
/-- str(x) by an own __str__ -/
def rStrOwn (C : Addr) (sp : Sp) (E : XK) : List V → Hp → VK → Prop := fun xs H Q => ∃ (a dx : Addr) (fs : List (Str × V)), xs = [V.ref a] ∧ H a = some (.ins C dx fs) ∧ sp [.ref a] H (fun z H' => ∃ y, z = .str y ∧ Q z H') E
theorem call_strOwn (hs : PySem.W.findIn X.K (.ref C) "__str__" = some (some (.ref g))) (hf : PySem.W.isFn X.K (.ref g) = true) (F : FnR X.prog X.w X.K X.mg X.base CX n g sp) (hr : Room (n + 2) X.A) (hx : Passes CX X E) :
    CallR X (.type "str") (rStrOwn C sp E) := by
  intro pins s σ H xs us Q I r h
  obtain ⟨a, dx, fs, rfl, ha, q⟩ := h
  obtain ⟨u, rfl, ru⟩ := vals1 r
  cases (show u = Value.ref a from ru)
  obtain ⟨mA, O, _⟩ := ins_get I.hok ha
  obtain ⟨od, J, _⟩ := O.look
  have hr2 : Room n X.A.in1.in1 := (show Room (n + 1) X.A.in1 from Room.in1 hr).in1
  refine PySem.W.kso_call hr2.units0 I.kIn J hs hf (wpAny_mono (wpAny_call (run_atR (us := [.ref a]) (ws := [.ref a]) F hr2 I.env0.in1.in1 hx I (.cons rfl .nil) q)) (fun w s' z => ?_) fun _ _ x => x)
  obtain ⟨z', H', I', rz, y, ey, qz⟩ := z
  subst ey
  obtain ⟨t, e⟩ := (show ∃ t, w = Value.str y t from rz)
  cases e
  exact ⟨.str y, H', I', ⟨t, rfl⟩, qz⟩
end

/-- cls(..), the class at C in the i-th slot -/
def tMakeL (i : Nat) (C : Addr) (sp : Sp) (dvs : List V) (E : XK) (t : TA) : TE := fun σ H Q => σ[i]? = some (some (.ref C)) ∧ t σ H fun vs H1 => ∀ x dx, H1 x = none → H1 dx = none → dx ≠ x →
  sp (.ref x :: (vs ++ dvs)) (upd (upd H1 dx (.own x)) x (.ins C dx [])) (fun v H2 => v = .non ∧ Q (.ref x) H2) E
section
variable {X : Cx} {CX : CXT} {k i : Nat} {f C : Addr} {fd : FuncData} {ps : List Str} {sp : Sp} {dvs : List V} {ds : List Value} {E : XK} {x : Str} {p pos : Pos} {e : Expr} {es : List Expr} {t : TA}
theorem pe_makeL (M : Mk X.K C f) (F : FnOk X.prog X.w X.K X.mg X.base CX k f fd ps sp) (hr : Room (k + 1) X.A) (hN : X.N[i]? = some x) (hv : Vis X.env.scope x) (hb : Binds X.K fd ps ds) (hd : Vals dvs ds) (hx : Passes CX X E)
    (ha : PA X (e :: es) t) (hdb : (x == ("__debug__" : Str)) = false := by decide) (hcd : (x == ("__classdict__" : Str)) = false := by decide)
    (he : starEach (e :: es) X.env = (false, eval e X.env) :: starEach es X.env := by rfl) (hpl : (backTo pos (starEach es X.env)).any (·.1) = false := by rfl) :
    PE X (.Call (.Name x p) (e :: es) [] pos) (tMakeL i C sp dvs E t) := by
  refine ⟨fun pins s σ H Q I h => ?_⟩
  obtain ⟨hs, ht⟩ := h
  refine wpAny_Call_Name_kw (thn ((pe_var (pos := p) hN hv hdb hcd).run pins s σ H (fun v H1 => v = .ref C ∧ H1 = H) I ⟨.ref C, hs, rfl, rfl⟩) fun u s1 ⟨v, H1, I1, r1, q1⟩ => ?_)
  obtain ⟨rfl, rfl⟩ := q1
  cases r1
  refine PySem.W.callWith_K (h₀ := X.base) I.ok.mod.kin M.kp (thn (ha.run pos pins s1 σ _ _ I1 ht) fun us s2 ⟨vs, H2, I2, r, q⟩ => ⟨I2.kIn, ?_⟩) he hpl
  exact run_make M F hr hb hd hx I2 r q
end

/-! ### types of values, classes -/
def notRef : Value → Bool
  | .ref _ => false
  | _ => true
def noRefs (l : List Value) : Bool := l.all notRef
theorem noRefs_of {l : List Value} {C : Addr} (h : noRefs l = true) : l.contains (.ref C) = false := by
  induction l with
  | nil => rfl
  | cons v l ih =>
    unfold noRefs at h
    rw [List.all_cons, Bool.and_eq_true] at h
    have h2 : l.contains (.ref C) = false := ih h.2
    rw [List.contains_cons, h2, Bool.or_false]
    cases v with
    | ref a => exact absurd h.1 (by show ¬ (false = true); decide)
    | _ => rfl
theorem sub_ty {K : PySem.W.Frag} {T : String} {C : Addr} (h : (fastBuiltinMro T).any noRefs = true) : PySem.W.subIn K (.type T) (.ref C) = some false := by
  show (fastBuiltinMro T).map (·.contains (.ref C)) = some false
  cases e : fastBuiltinMro T with
  | none => rw [e] at h; cases h
  | some l =>
    rw [e] at h
    exact congrArg some (noRefs_of h)
theorem nf_ty {K : PySem.W.Frag} {T : String} {C : Addr} (h : (fastBuiltinMro T).any noRefs = true) : PySem.W.notFirst K C (.type T) = true := by
  unfold PySem.W.notFirst
  rw [sub_ty h]
  exact Bool.or_true _
theorem nf_own {K : PySem.W.Frag} {C : Addr} : PySem.W.notFirst K C (.ref C) = true := by
  unfold PySem.W.notFirst
  rw [beq_self_eq_true]
  exact Bool.true_or _
theorem mro_str : (fastBuiltinMro "str").any noRefs = true := by decide +kernel
theorem mro_int : (fastBuiltinMro "int").any noRefs = true := by decide +kernel
theorem mro_bool : (fastBuiltinMro "bool").any noRefs = true := by decide +kernel
theorem mro_none : (fastBuiltinMro "NoneType").any noRefs = true := by decide +kernel
theorem mro_tuple : (fastBuiltinMro "tuple").any noRefs = true := by decide +kernel
theorem mro_list : (fastBuiltinMro "list").any noRefs = true := by decide +kernel
/-- what of the text a class must have: its instances are read, compared, asked for their class -/
structure ClsT (K : PySem.W.Frag) (C : Addr) : Prop where
  cl : Cls K C
  ca : PySem.W.findIn K (.ref C) "__class__" = some (some (.builtin "object.__class__"))
  cn : PySem.W.specialIn K (.builtin "object.__class__") "__get__" = some (some (.builtin "getset_descriptor.__get__"))
  ct : PySem.W.takesIn K (.builtin "object.__class__") = some true
  cm : PySem.W.mroIn K C (.type "object") = some true
  isc : ((PySem.W.clsIn K C).isSome && PySem.W.typeIn K (.ref C) == some (.type "type")) = true
  ne : PySem.W.findIn K (.ref C) "__ne__" = some (some (.builtin "object.__ne__"))
theorem isc_mk {K : PySem.W.Frag} {C : Addr} (a : PySem.W.isClsIn K C = true) (b : PySem.W.typeIn K (.ref C) = some (.type "type")) : ((PySem.W.clsIn K C).isSome && PySem.W.typeIn K (.ref C) == some (.type "type")) = true := by
  rw [b, show (PySem.W.clsIn K C).isSome = true from a]
  rfl
theorem ClsT.ty {K : PySem.W.Frag} {C : Addr} (c : ClsT K C) {H : Hp} {a dx : Addr} {fs : List (Str × V)} (h : H a = some (.ins C dx fs)) : TyX K H (.ref a) (.ref C) := .base (.ins h c.cl c.ca c.cn c.ct c.cm)
theorem kit_own {K : PySem.W.Frag} {C : Addr} : PySem.W.kitOne K (.ref C) (.ref C) = some true := by
  unfold PySem.W.kitOne
  rw [beq_self_eq_true]
  exact if_pos rfl
theorem ClsT.kitTy {K : PySem.W.Frag} {C : Addr} (c : ClsT K C) {T : String} (h : (fastBuiltinMro T).any noRefs = true) : PySem.W.kitOne K (.type T) (.ref C) = some false := by
  unfold PySem.W.kitOne
  rw [if_neg (by show ¬ ((Value.type T == Value.ref C) = true); exact fun q => nomatch (beq_iff_eq.mp q))]
  show (if ((PySem.W.clsIn K C).isSome && PySem.W.typeIn K (.ref C) == some (.type "type")) = true then PySem.W.subIn K (.type T) (.ref C) else none) = some false
  rw [if_pos c.isc]
  exact sub_ty h

/-! ### heaps: all but one address stays -/
/-- what stood at another address than b stands -/
def But (b : Addr) (H H' : Hp) : Prop := ∀ q o, H q = some o → q ≠ b → H' q = some o
theorem But.refl {b : Addr} {H : Hp} : But b H H := fun _ _ h _ => h
theorem But.trans {b : Addr} {H H1 H2 : Hp} (x : But b H H1) (y : But b H1 H2) : But b H H2 := fun q o h n => y q o (x q o h n) n
theorem But.of {b : Addr} {H H' : Hp} (s : Same H H') : But b H H' := fun q o h _ => s q o h
theorem But.upd {b : Addr} {H : Hp} {o : HO} : But b H (upd H b o) := fun q u h n => by rw [upd_ne n]; exact h
theorem But.same {b : Addr} {H H' : Hp} (x : But b H H') (h : H b = none) : Same H H' := fun q o e => x q o e (ne_of_none e h)
theorem But.free {b q : Addr} {H H' : Hp} (x : But b H H') (n : q ≠ b) (h : H' q = none) : H q = none := by
  cases e : H q with
  | none => rfl
  | some o => rw [x q o e n] at h; cases h
theorem But.seq {K : PySem.W.Frag} {b a : Addr} {xs : List V} {H H' : Hp} (x : But b H H') (n : a ≠ b) (h : SqL K H a xs) : SqL K H' a xs := by
  rcases h with (h | ⟨o, h⟩) | h
  · exact .inl (.inl (x _ _ h n))
  · exact .inl (.inr ⟨o, x _ _ h n⟩)
  · exact .inr h
theorem Same.new {H : Hp} {p : Addr} {o : HO} (h : H p = none) : Same H (upd H p o) := fun q u e => by
  rw [upd_ne (ne_of_none e h)]; exact e
/-- a new instance is laid -/
theorem Same.make {H : Hp} {x dx C : Addr} {fs : List (Str × V)} (nx : H x = none) (nd : H dx = none) : Same H (L2.upd (L2.upd H dx (.own x)) x (.ins C dx fs)) := fun b o e => by
  rw [upd_ne (ne_of_none e nx), upd_ne (ne_of_none e nd)]; exact e
theorem two_upd {H : Hp} {a : Addr} {o u : HO} : L2.upd (L2.upd H a o) a u = L2.upd H a u := upd_upd

/-! ### attributes -/
theorem lk0 {f : Str} {v : V} {fs : List (Str × V)} : List.lookup f ((f, v) :: fs) = some v := by
  rw [List.lookup_cons]; simp
theorem lk1 {f g : Str} {v : V} {fs : List (Str × V)} (h : (f == g) = false) : List.lookup f ((g, v) :: fs) = List.lookup f fs := by
  rw [List.lookup_cons, h]
theorem pf0 {f : Str} {v : V} : putF f v [] = [(f, v)] := rfl
theorem pf1 {f g : Str} {v u : V} {fs : List (Str × V)} (h : ¬ g = f) : putF f v ((g, u) :: fs) = (g, u) :: putF f v fs := by
  show (if g = f then (g, v) :: fs else (g, u) :: putF f v fs) = _
  rw [if_neg h]

/-! ### readings by short names -/
abbrev rAddI : R2 := rI0 fun i j => .int (i + j)
abbrev rSubI : R2 := rI0 fun i j => .int (i - j)
abbrev rMulI : R2 := rI CMul fun i j => .int (i * j)
abbrev rFdivI : R2 := rI CDiv fun i j => .int (i / j)
abbrev rModI : R2 := rI (fun _ j => 0 < j) fun i j => .int (i % j)
abbrev rPowI : R2 := rI CPow fun i j => .int (i ^ j.toNat)
abbrev rLtI : R2 := rI0 fun i j => .bl (decide (i < j))
abbrev rLeI : R2 := rI0 fun i j => .bl (decide (i ≤ j))
abbrev rGtI : R2 := rI0 fun i j => .bl (decide (j < i))
abbrev rGeI : R2 := rI0 fun i j => .bl (decide (j ≤ i))
abbrev rNegI : V → Hp → VK → Prop := rU fun i => .int (-i)
abbrev rAddS : R2 := fun x y H Q => ∃ i j, x = .str i ∧ y = .str j ∧ i.length + j.length ≤ sizeLine ∧ Q (.str (i ++ j)) H
abbrev rIsNn : R2 := fun x y H Q => y = .non ∧ Q (.bl (decide (x = .non))) H
abbrev rNotNn : R2 := fun x y H Q => y = .non ∧ Q (.bl (!decide (x = .non))) H
abbrev rLenSq (K : PySem.W.Frag) : List V → Hp → VK → Prop := fun xs H Q => ∃ p ys, xs = [.ref p] ∧ (SqL K H p ys ∨ SqT K H p ys) ∧ Q (.int ys.length) H
abbrev rStrI : List V → Hp → VK → Prop := fun xs H Q => ∃ i, xs = [.int i] ∧ i.natAbs.log2 < 1920 ∧ Q (.str (toString i)) H

/-! ### new objects, by what is true of the heap behind them -/
section
variable {X : Cx} {e : Expr} {es : List Expr} {t t' : TE} {ta : TA} {pos : Pos}
theorem PE.weak (h : PE X e t) (k : ∀ σ H Q, t' σ H Q → t σ H Q) : PE X e t' := ⟨fun pins s σ H Q I q => h.run pins s σ H Q I (k σ H Q q)⟩
def tTupS (t : TA) : TE := fun σ H Q => t σ H fun xs H1 => xs.length ≤ sizeLine ∧ ∀ p H', H1 p = none → Same H1 H' → H' p = some (.tup xs) → Q (.ref p) H'
def tLstS (t : TA) : TE := fun σ H Q => t σ H fun xs H1 => xs.length ≤ sizeLine ∧ ∀ p H', H1 p = none → Same H1 H' → H' p = some (.lst xs) → Q (.ref p) H'
theorem pe_tupS {x1} (h : PA X es ta) : PE X (.Tuple es x1 pos) (tTupS ta) := by
  refine ⟨fun pins s σ H Q I hq => ?_⟩
  refine wpAny_Tuple_spliced (thn (h.run pos pins s σ H _ I hq) fun us s1 ⟨xs, H1, I1, r, z, q⟩ => ⟨by rw [← r.length]; exact z, ?_⟩)
  have hf : H1 s1.heap.objs.size = none := I1.hok.fresh (Nat.le_refl _)
  refine ⟨.ref s1.heap.objs.size, L2.upd H1 s1.heap.objs.size (.tup xs), I1.laid (t' := s1.toks) (fun b u e => Heap.get?_push_of_some _ e) (Nat.le_refl _) ?_, rfl, q _ _ hf (Same.new hf) upd_same⟩
  exact ⟨z, us, r, ⟨_, Heap.get?_push_size _ rfl, rfl, _, rfl⟩⟩
theorem pe_lstS (h : PA X es ta) : PE X (.List es pos) (tLstS ta) := by
  refine ⟨fun pins s σ H Q I hq => ?_⟩
  refine wpAny_List_spliced (thn (h.run pos pins s σ H _ I hq) fun us s1 ⟨xs, H1, I1, r, z, q⟩ => ⟨by rw [← r.length]; exact z, ?_⟩)
  have hf : H1 s1.heap.objs.size = none := I1.hok.fresh (Nat.le_refl _)
  refine ⟨.ref s1.heap.objs.size, L2.upd H1 s1.heap.objs.size (.lst xs), I1.laid (t' := s1.toks) (fun b u e => Heap.get?_push_of_some _ e) (Nat.le_refl _) ?_, rfl, q _ _ hf (Same.new hf) upd_same⟩
  exact ⟨z, us, 0, r, Heap.get?_push_size _ rfl⟩
def rCatS : R2 := fun x y H Q => ∃ l b xs zs, x = .ref l ∧ y = .ref b ∧ H l = some (.lst xs) ∧ H b = some (.lst zs) ∧ xs.length + zs.length ≤ sizeLine ∧ ∀ p H', H p = none → Same H H' → H' p = some (.lst (xs ++ zs)) → Q (.ref p) H'
theorem op_catS : OpR X (binaryOp .Add) rCatS := by
  intro pins s σ H x y v u Q I rx ry h
  obtain ⟨l, b, xs, zs, h1, h2, h3, h4, h5, h6⟩ := h
  exact op_cat pins s σ H x y v u Q I rx ry ⟨l, b, xs, zs, h1, h2, h3, h4, h5, fun p hp => h6 p _ hp (Same.new hp) upd_same⟩
def rSlLS (K : PySem.W.Frag) : V → Option Int → Option Int → Hp → VK → Prop := fun x lo hi H Q => ∃ a xs, x = .ref a ∧ SqL K H a xs ∧ ∀ p H', H p = none → Same H H' → H' p = some (.lst (cutV xs lo hi)) → Q (.ref p) H'
theorem sl_listS : SlR X (rSlLS X.K) := by
  intro pins s σ H x v vl vu lo hi sl Q I rx hs pl pu h
  obtain ⟨a, xs, h1, h2, h3⟩ := h
  exact sl_list pins s σ H x v vl vu lo hi sl Q I rx hs pl pu ⟨a, xs, h1, h2, fun p hp => h3 p _ hp (Same.new hp) upd_same⟩
def rListOfS (K : PySem.W.Frag) : List V → Hp → VK → Prop := fun xs H Q => ∃ p ys, xs = [.ref p] ∧ (SqL K H p ys ∨ SqT K H p ys) ∧ ∀ l H', H l = none → Same H H' → H' l = some (.lst ys) → Q (.ref l) H'
theorem call_list_ofS : CallR X (.type "list") (rListOfS X.K) := by
  intro pins s σ H xs us Q I r h
  obtain ⟨p, ys, h1, h2, h3⟩ := h
  exact call_list_of pins s σ H xs us Q I r ⟨p, ys, h1, h2, fun l hl => h3 l _ hl (Same.new hl) upd_same⟩
end
/-- a new object at x, whatever its attributes: what stood before stands -/
theorem made_same {H H' : Hp} {x dx C : Addr} {fs : List (Str × V)} (nx : H x = none) (nd : H dx = none) (b : But x (L2.upd (L2.upd H dx (.own x)) x (.ins C dx fs)) H') : Same H H' := fun q o e =>
  b q o (by rw [upd_ne (ne_of_none e nx), upd_ne (ne_of_none e nd)]; exact e) (ne_of_none e nx)
end Lf

set_option Elab.async false
set_option linter.all false
set_option maxRecDepth 100000
set_option maxHeartbeats 4000000
/-! len, in, subscripts and slices by own methods; count of tuples. -/
namespace Lf
open PySem PySem.Spec PyProof.Rows L2
section
variable {X : Cx} {CX : CXT} {pins : List (Addr × Obj)} {σ : L2.St} {H : Hp} {s : Shared} {C g : Addr} {n : Nat} {sp : Sp} {E : XK}
/-- len(x) by an own __len__ -/
def rLenOwn (C : Addr) (sp : Sp) (E : XK) : List V → Hp → VK → Prop := fun xs H Q => ∃ (a dx : Addr) (fs : List (Str × V)), xs = [V.ref a] ∧ H a = some (.ins C dx fs) ∧ sp [.ref a] H (fun z H' => ∃ i : Int, z = .int i ∧ 0 ≤ i ∧ i < 2 ^ 63 ∧ Q z H') E
theorem call_lenOwn (hs : PySem.W.findIn X.K (.ref C) "__len__" = some (some (.ref g))) (hf : PySem.W.isFn X.K (.ref g) = true) (F : FnR X.prog X.w X.K X.mg X.base CX n g sp) (hr : Room (n + 1) X.A) (hx : Passes CX X E) :
    CallR X (.builtin "len") (rLenOwn C sp E) := by
  intro pins s σ H xs us Q I r h
  obtain ⟨a, dx, fs, rfl, ha, q⟩ := h
  obtain ⟨u, rfl, ru⟩ := vals1 r
  cases (show u = Value.ref a from ru)
  obtain ⟨mA, O, _⟩ := ins_get I.hok ha
  obtain ⟨od, J, _⟩ := O.look
  obtain ⟨m, hF⟩ := I.fr
  refine PySem.W.len_K hF I.ok.mod.kin J hs hf (wpAny_mono (wpAny_call (run_atR (us := [.ref a]) (ws := [.ref a]) F hr.in1 I.env0.in1 hx I (.cons rfl .nil) q)) (fun w s' z => ?_) fun _ _ x => x)
  obtain ⟨z', H', I', rz, i, ei, i0, i1, qz⟩ := z
  subst ei
  obtain ⟨t, e⟩ := (show ∃ t, w = Value.int i t from rz)
  cases e
  exact ⟨⟨i0, i1⟩, .int i, H', I'.tok _, ⟨_, rfl⟩, qz⟩
/-- v in x by an own __contains__ that answers a bool -/
def rInOwn (C : Addr) (sp : Sp) (E : XK) (neg : Bool) : R2 := fun x y H Q => ∃ (a dx : Addr) (fs : List (Str × V)), y = .ref a ∧ H a = some (.ins C dx fs) ∧ sp [y, x] H (fun z H' => ∃ b, z = .bl b ∧ Q (.bl (if neg then !b else b)) H') E
theorem op_inOwn (hs : PySem.W.findIn X.K (.ref C) "__contains__" = some (some (.ref g))) (hf : PySem.W.isFn X.K (.ref g) = true) (F : FnR X.prog X.w X.K X.mg X.base CX n g sp) (hr : Room n X.A) (hx : Passes CX X E) :
    OpR X (compareOp .In) (rInOwn C sp E false) := by
  intro pins s σ H x y v u Q I rx ry h
  obtain ⟨a, dx, fs, rfl, ha, q⟩ := h
  cases (show u = Value.ref a from ry)
  obtain ⟨mA, O, _⟩ := ins_get I.hok ha
  obtain ⟨od, J, _⟩ := O.look
  obtain ⟨m, hF⟩ := I.fr
  refine PySem.W.in_K hF I.ok.mod.kin J hs hf (wpAny_mono (wpAny_call (run_fnR (us := [.ref a, v]) (vs := [.ref a, x]) F hr hx I (.cons rfl (.cons rx .nil)) q)) (fun w s' z => ?_) fun _ _ x => x)
  obtain ⟨z', H', I', rz, b, eb, qz⟩ := z
  subst eb
  cases (show w = Value.bool b from rz)
  exact wpAny_truthy_bool ⟨.bl b, H', I', rfl, qz⟩
theorem op_notInOwn (hs : PySem.W.findIn X.K (.ref C) "__contains__" = some (some (.ref g))) (hf : PySem.W.isFn X.K (.ref g) = true) (F : FnR X.prog X.w X.K X.mg X.base CX n g sp) (hr : Room n X.A) (hx : Passes CX X E) :
    OpR X (compareOp .NotIn) (rInOwn C sp E true) := by
  intro pins s σ H x y v u Q I rx ry h
  obtain ⟨a, dx, fs, rfl, ha, q⟩ := h
  cases (show u = Value.ref a from ry)
  obtain ⟨mA, O, _⟩ := ins_get I.hok ha
  obtain ⟨od, J, _⟩ := O.look
  obtain ⟨m, hF⟩ := I.fr
  refine PySem.W.notIn_K hF I.ok.mod.kin J hs hf (wpAny_mono (wpAny_call (run_fnR (us := [.ref a, v]) (vs := [.ref a, x]) F hr hx I (.cons rfl (.cons rx .nil)) q)) (fun w s' z => ?_) fun _ _ x => x)
  obtain ⟨z', H', I', rz, b, eb, qz⟩ := z
  subst eb
  cases (show w = Value.bool b from rz)
  exact wpAny_truthy_bool ⟨.bl (!b), H', I', rfl, qz⟩
/-! ### subscripts -/
/-- x[i] by an own __getitem__ -/
def rIxOwn (C : Addr) (sp : Sp) (E : XK) : R2 := fun x y H Q => ∃ (a dx : Addr) (fs : List (Str × V)), x = .ref a ∧ H a = some (.ins C dx fs) ∧ sp [x, y] H Q E
theorem pe_ixOwn {a b : Expr} {ta tb : TE} {pos : Pos} (hs : PySem.W.findIn X.K (.ref C) "__getitem__" = some (some (.ref g))) (hfi : PySem.W.fnIn X.K g = true) (hf : PySem.W.isFn X.K (.ref g) = true)
    (F : FnR X.prog X.w X.K X.mg X.base CX n g sp) (hr : Room (n + 1) X.A) (hx : Passes CX X E) (ha : PE X a ta) (hb : PE X b tb)
    (hsl : ∀ (x : Addr) (i : Value), subscripted b true (.ref x) i = runValue (.builtin "lifetime.subscript" ⟨[.ref x, i], []⟩)) : PE X (.Subscript a b pos) (tOp (rIxOwn C sp E) ta tb) := by
  refine ⟨fun pins s σ H Q I h => ?_⟩
  refine Subscript_ (binT ha hb I h fun v u s2 x y H2 I2 rx ry q => ?_)
  obtain ⟨p, dx, fs, rfl, hp, q⟩ := q
  cases (show v = Value.ref p from rx)
  obtain ⟨mA, O, _⟩ := ins_get I2.hok hp
  obtain ⟨od, J, _⟩ := O.look
  obtain ⟨m, hF⟩ := I2.fr
  exact PySem.W.sub_K hF I2.ok.mod.kin J hs hfi hf (wpAny_mono (wpAny_call (run_atR (us := [.ref p, u]) (ws := [.ref p, y]) F hr.in1 I2.env0.in1 hx I2 (.cons rfl (.cons ry .nil)) q)) (fun _ _ z => z) fun _ _ x => x) (hsl p u)
/-- a slice object -/
def SliceO (sl : Addr) (lo hi : Option Int) : HO := .ext fun h => ∃ vl vu, h.IsSliceOf sl vl vu .none ∧ IsPart vl lo ∧ IsPart vu hi
def tSlOwn (C : Addr) (sp : Sp) (E : XK) (te : TE) (tl th : TO) : TE := fun σ H Q => te σ H fun x H1 => tl σ H1 fun l H2 => th σ H2 fun u H3 => ∃ (a dx : Addr) (fs : List (Str × V)), x = .ref a ∧ H3 a = some (.ins C dx fs) ∧
  ∀ p H', H3 p = none → Same H3 H' → H' p = some (SliceO p l u) → sp [x, .ref p] H' Q E
theorem sub_sliceK {prog : Program} {w : World} {A : Around} {E : Value → Shared → Prop} {s : Shared} {K : PySem.W.Frag} {x C L f : Addr} {h₀ : Heap} {m : Str → Option Value} {ox : Obj} {od : Option Obj} {value : Expr} {lo hi : Option Expr} {p2 : Pos} {i : Value} {Q : Value → Shared → Prop} (F : Fr h₀ L s.heap m) (X₀ : K.In h₀) (I : PySem.W.InstAt s.heap x ox C od)
    (hq : PySem.W.noSeq K C = true) (hs : PySem.W.findIn K (.ref C) "__getitem__" = some (some (.ref f))) (hf : PySem.W.fnIn K f = true) (hfn : PySem.W.isFn K (.ref f) = true)
    (h : wpAny (model prog w) A (call (.ref f) [.ref x, i]) Q E s) : wpAny (model prog w) A (subscriptTail value (.Slice lo hi none p2) (.ref x) i) Q E s := by
  have X := X₀.keeps F.keep
  unfold PySem.W.fnIn at hf
  split at hf
  · rename_i e
    unfold subscriptTail getitemInPython
    refine wpAny_bind (wpAny_bind (wpAny_bind (I.type.here ((PySem.W.looks_findIn X hs).here ?_))))
    dsimp only
    refine wpAny_bind (wpAny_load (X _ _ e) (wpAny_pure ?_))
    dsimp only
    show wpAny (model prog w) A (operate [i, .ref x] (getItem (.ref x) i) >>= _) Q E s
    refine wpAny_bind (wpAny_operateT (PySem.W.getItem_K F X₀ I hq hs hfn (wpAny_mono h (fun v s' z => ?_) fun _ _ z => z)))
    exact wpAny_bind (wpAny_letTemporaryGo (wpAny_pure z))
  · cases hf
theorem pe_sliceOwn {e : Expr} {te : TE} {lo hi : Option Expr} {tl th : TO} {pos p2 : Pos} (hq : PySem.W.noSeq X.K C = true) (hs : PySem.W.findIn X.K (.ref C) "__getitem__" = some (some (.ref g))) (hfi : PySem.W.fnIn X.K g = true) (hf : PySem.W.isFn X.K (.ref g) = true)
    (F : FnR X.prog X.w X.K X.mg X.base CX n g sp) (hr : Room n X.A) (hx : Passes CX X E) (he : PE X e te) (hl : PO X lo tl) (hu : PO X hi th) :
    PE X (.Subscript e (.Slice lo hi none p2) pos) (tSlOwn C sp E te tl th) := by
  refine ⟨fun pins s σ H Q I h => ?_⟩
  refine Subscript_ (thn (he.run pins s σ H _ I h) fun v s1 ⟨x, H1, I1, r1, q1⟩ => ?_)
  refine wpAny_Slice (thn (hl.run pins s1 σ H1 _ I1 q1) fun vl s2 ⟨l, H2, I2, pl, q2⟩ => thn (hu.run pins s2 σ H2 _ I2 q2) fun vu s3 ⟨u, H3, I3, pu, q3⟩ => ?_)
  rw [evalPart_none]
  refine wpAny_pure ?_
  have hn : H3 s3.heap.objs.size = none := I3.hok.fresh (Nat.le_refl _)
  have kp : ∀ b ob, s3.heap.get? b = some ob → (s3.heap.push { cls := .type "slice", data := .fields #[vl, vu, .none] }).get? b = some ob := fun b ob q => Heap.get?_push_of_some _ q
  have new : ObjOk X.prog X.w (L2.upd H3 s3.heap.objs.size (SliceO s3.heap.objs.size l u)) (s3.heap.push { cls := .type "slice", data := .fields #[vl, vu, .none] }) s3.heap.objs.size (SliceO s3.heap.objs.size l u) := by
    refine ⟨⟨vl, vu, Heap.IsSliceOf.new .., pl, pu⟩, ⟨_, Heap.get?_push_size _ rfl⟩, fun h1 h2 z k => ?_⟩
    obtain ⟨a1, a2, ⟨o, z1, z2⟩, z3⟩ := z
    exact ⟨a1, a2, ⟨o, k o z1, z2⟩, z3⟩
  have I4 := I3.laid (t' := s3.toks) kp (Nat.le_refl _) new
  obtain ⟨p, dx, fs, rfl, hp, q⟩ := q3
  cases (show v = Value.ref p from r1)
  have hp4 := Same.new (o := SliceO s3.heap.objs.size l u) hn p _ hp
  obtain ⟨mA, O, _⟩ := ins_get I4.hok hp4
  obtain ⟨od, J, _⟩ := O.look
  obtain ⟨m, hF⟩ := I4.fr
  show wpAny (model X.prog X.w) X.A (subscriptTail e (.Slice lo hi none p2) (.ref p) (.ref s3.heap.objs.size)) (EP X pins σ Q) X.xe { s3 with heap := s3.heap.push { cls := .type "slice", data := .fields #[vl, vu, .none] } }
  refine sub_sliceK hF I4.ok.mod.kin J hq hs hfi hf ?_
  exact wpAny_mono (wpAny_call (run_fnR (us := [.ref p, .ref s3.heap.objs.size]) (vs := [.ref p, .ref s3.heap.objs.size]) F hr hx I4 (.cons rfl (.cons rfl .nil)) (q _ _ hn (Same.new hn) upd_same))) (fun _ _ z => z) fun _ _ x => x
/-- t[i], t a tuple, i an int or a slice object -/
def rIxTS (K : PySem.W.Frag) : R2 := fun x y H Q => rIxT K x y H Q ∨ ∃ (sl : Addr) (lo hi : Option Int), y = .ref sl ∧ H sl = some (SliceO sl lo hi) ∧ rSlA K x lo hi H Q
theorem ix_tupS : IxR X (rIxTS X.K) := by
  intro value slice pins s σ H x y v u Q I rx ry h hs
  rcases h with h | ⟨sl, lo, hi, rfl, hsl, q⟩
  · exact ix_tup value slice pins s σ H x y v u Q I rx ry h hs
  · cases (show u = Value.ref sl from ry)
    obtain ⟨⟨vl, vu, z1, z2, z3⟩, _⟩ := (show ObjOk X.prog X.w H s.heap sl (SliceO sl lo hi) from I.hok sl _ hsl)
    obtain ⟨T, id, hT, ht, hg⟩ := sl_tupA pins s σ H x v vl vu lo hi sl Q I rx z1 z2 z3 q
    exact tail_any (ops := [v, .ref sl]) ht hT hg hs
/-! ### tuples of which the object is known: their methods -/
/-- a tuple of xs at a, of the built-in class itself -/
def TupD (H : Hp) (a : Addr) (xs : List V) : Prop := ∃ o : Obj, H a = some (.frz o (.tup xs)) ∧ o.dict = none ∧ o.cls = .type "tuple"
theorem TupD.keep {H H' : Hp} {a : Addr} {xs : List V} (h : TupD H a xs) (s : Same H H') : TupD H' a xs := by
  obtain ⟨o, h1, h2⟩ := h
  exact ⟨o, s _ _ h1, h2⟩
theorem TupD.but {H H' : Hp} {a b : Addr} {xs : List V} (h : TupD H a xs) (s : But b H H') (n : a ≠ b) : TupD H' a xs := by
  obtain ⟨o, h1, h2⟩ := h
  exact ⟨o, s _ _ h1 n, h2⟩
theorem TupD.ne {H : Hp} {a b : Addr} {xs : List V} (h : TupD H a xs) (n : H b = none) : a ≠ b := by
  obtain ⟨o, h1, h2⟩ := h
  exact ne_of_none h1 n
theorem TupD.seq {K : PySem.W.Frag} {H : Hp} {a : Addr} {xs : List V} (h : TupD H a xs) : SqT K H a xs := by
  obtain ⟨o, h1, _⟩ := h
  exact .inl (.inr ⟨o, h1⟩)
theorem TupD.ty {K : PySem.W.Frag} {H : Hp} {a : Addr} {xs : List V} (h : TupD H a xs) : TyX K H (.ref a) (.type "tuple") := by
  obtain ⟨o, h1, _⟩ := h
  exact .fTuple h1
/-- tuple(list): a new one, known -/
def rTupleD (K : PySem.W.Frag) : List V → Hp → VK → Prop := fun xs H Q => ∃ p ys, xs = [.ref p] ∧ SqL K H p ys ∧ ∀ l H', H l = none → Same H H' → TupD H' l ys → Q (.ref l) H'
theorem call_tupleD : CallR X (.type "tuple") (rTupleD X.K) := by
  intro pins s σ H xs us Q I r h
  obtain ⟨p, ys, rfl, hq, q⟩ := h
  obtain ⟨u, rfl, rx⟩ := vals1 r
  cases rx
  obtain ⟨its, r', pl, hz⟩ := I.list hq
  have hlen := r'.length
  refine call_tuple_list pl.isList (fun h' kp => ?_) (by simp only [List.size_toArray] <;> omega)
  have I1 : L2.Inv X pins σ H { s with heap := h' } := I.kept (t' := s.toks) kp
  have hn := I1.hok.fresh (Nat.le_refl h'.objs.size)
  have I2 : L2.Inv X pins σ (L2.upd H h'.objs.size (.frz { cls := .type "tuple", data := .seq its.toArray } (.tup ys))) { s with heap := h'.push { cls := .type "tuple", data := .seq its.toArray } } :=
    I1.laid (t' := s.toks) (fun b o e => Heap.get?_push_of_some _ e) (Nat.le_refl _) (show ObjOk X.prog X.w _ _ _ (.frz _ (.tup ys)) from ⟨Heap.get?_push_size _ rfl, hz, its, r', IsTup.new _ _⟩)
  exact ⟨.ref h'.objs.size, _, I2, rfl, q _ _ hn (Same.new hn) ⟨_, upd_same, rfl, rfl⟩⟩
/-- a method of such a tuple -/
def tBMT (r : V → List V → Hp → VK → Prop) (to : TE) (t : TA) : TE := fun σ H Q => to σ H fun x H1 => (∃ p xs, x = .ref p ∧ TupD H1 p xs) ∧ t σ H1 fun xs H2 => r x xs H2 Q
theorem pe_bmT {o e : Expr} {es : List Expr} {to : TE} {t : TA} {name : Str} {apos cpos : Pos} {id : String} {r : V → List V → Hp → VK → Prop} (pa : PlainAttrs "tuple") (slot : Slot "tuple" name id) (hty : typeOf (.builtin id) = pure (.type "method_descriptor")) (hm : MtR X id r) (ho : PE X o to) (ha : PA X (e :: es) t)
    (hbase : attributeBase o name X.env (eval o X.env) = eval o X.env := by rfl)
    (hfew : ((backTo cpos (starEach (e :: es) X.env)).all (fun x => !x.1) && (backToKw cpos (keywordEach [] X.env)).all (fun x => x.1.isSome)
      && decide ((e :: es).length + ([] : List Keyword).length + (if ([] : List Keyword).isEmpty then 0 else 1) < 30)) = true := by rfl)
    (hline : (apos.endLine == cpos.line) = true := by rfl) (hs : starEach (e :: es) X.env = (false, eval e X.env) :: starEach es X.env := by rfl) (hplain : (backTo cpos (starEach es X.env)).any (·.1) = false := by rfl) :
    PE X (.Call (.Attribute o name apos) (e :: es) [] cpos) (tBMT r to t) := by
  refine ⟨fun pins s σ H Q I h => ?_⟩
  refine wpAny_Call_method_late hbase hfew hline rfl (thn (ho.run pins s σ H _ I h) fun v s1 ⟨x, H1, I1, r1, ty, q1⟩ => ?_)
  obtain ⟨p, xs, rfl, ob, hp, hd, hc⟩ := ty
  cases (show v = Value.ref p from r1)
  obtain ⟨hg, _⟩ := (show ObjOk X.prog X.w H1 s1.heap p (.frz ob (.tup xs)) from I1.hok p _ hp)
  refine ⟨"tuple", id, pa, slot, hty, ⟨ob, hg, hc⟩, fun b eb => by cases eb; exact ⟨ob, hg, hd⟩, ?_⟩
  have hA := ha.run cpos pins s1 σ H1 _ I1 q1
  rw [hs] at hA ⊢
  refine Calls.callWith_builtin (by show (false || (backTo cpos (starEach es X.env)).any (·.1)) = false; rw [hplain] <;> rfl) (Calls.evalArgs_plain ?_)
  exact thn hA fun us s2 ⟨vs, H2, I2, r2, q2⟩ => hm pins s2 σ H2 (.ref p) vs (.ref p) us Q I2 rfl r2 q2
def rCntT (K : PySem.W.Frag) : V → List V → Hp → VK → Prop := fun x xs H Q => ∃ (p : Addr) (ns : List Int) (k : Int), x = .ref p ∧ xs = [.int k] ∧ SqT K H p (ns.map V.int) ∧ Q (.int (ns.count k : Nat)) H
theorem mt_tcount : MtR X "tuple.count" (rCntT X.K) := by
  intro pins s σ H x xs v us Q I rx rxs h
  obtain ⟨p, ns, k, rfl, rfl, hs, q⟩ := h
  cases rx
  obtain ⟨u, rfl, ru⟩ := vals1 rxs
  obtain ⟨t, rfl⟩ := ru
  obtain ⟨its, rv, ⟨⟨cls, dd, data, sl⟩, ho, hc, n, hd⟩, hlen⟩ := I.tuple hs
  simp only at hc hd
  subst hc hd
  have hi := ints_of_vals rv
  refine call_meets PySem.F.slot_tuple_count ⟨_, ho, rfl⟩ PySem.F.entry_tuple_count (PySem.F.args_tuple_count_2 _ _)
    (SeqAt.tuple_countAt p its.toArray n dd sl (.int k t) (eqk k)) ⟨ho, fun y hy => (eqk_gives hi y (by simpa using hy)).at _ _, ?_⟩
  have ec : its.toArray.toList.countP (eqk k) = ns.count k := eqk_count hi
  refine ⟨.int (ns.count k : Nat), H, I.tok _, ⟨s.toks, ?_⟩, q⟩
  show Value.int ((its.toArray.toList.countP (eqk k) : Nat) : Int) s.toks = Value.int ((ns.count k : Nat) : Int) s.toks
  rw [ec]
end
/-! ### data: lists and tuples of ints compared -/
theorem dp_ints {K : PySem.W.Frag} {H : Hp} : ∀ ns : List Int, DpAll K H (ns.map V.int) (ns.map PyData.int)
  | [] => .nil
  | n :: ns => .cons (.int n) (dp_ints ns)
theorem eqv_ints : ∀ ns ms : List Int, PyData.eqvAll (ns.map PyData.int) (ms.map PyData.int) = decide (ns = ms)
  | [], [] => rfl
  | [], m :: ms => by rw [decide_eq_false (by simp)]; rfl
  | n :: ns, [] => by rw [decide_eq_false (by simp)]; rfl
  | n :: ns, m :: ms => by
    show (n == m && PyData.eqvAll (ns.map PyData.int) (ms.map PyData.int)) = decide (n :: ns = m :: ms)
    rw [eqv_ints ns ms]
    by_cases h1 : n = m
    · by_cases h2 : ns = ms
      · rw [h1, h2]; simp
      · rw [h1]; simp [h2]
    · simp [h1]
theorem lay_ints : ∀ ns : List Int, PyData.canLayAll0 (ns.map PyData.int) = true
  | [] => by simp only [List.map_nil, PyData.canLayAll0]
  | n :: ns => by simp only [List.map_cons, PyData.canLayAll0, PyData.canLay0, lay_ints ns, Bool.and_self]
theorem deep_ints : ∀ ns : List Int, PyData.depthAll (ns.map PyData.int) = 0
  | [] => by simp only [List.map_nil, PyData.depthAll]
  | n :: ns => by simp only [List.map_cons, PyData.depthAll, PyData.depth, deep_ints ns, Nat.max_self]
theorem shaped_intsL (ns : List Int) : SeqAt.shaped (.list (ns.map PyData.int)) = true := by
  unfold SeqAt.shaped
  simp only [PyData.canLay0, lay_ints, PyData.depth, deep_ints]
  decide
theorem shaped_intsT (ns : List Int) : SeqAt.shaped (.tuple (ns.map PyData.int)) = true := by
  unfold SeqAt.shaped
  simp only [PyData.canLay0, lay_ints, PyData.depth, deep_ints]
  decide
section
variable {X : Cx}
def rEqIL (K : PySem.W.Frag) : R2 := fun x y H Q => ∃ (p q : Addr) (ns ms : List Int), x = .ref p ∧ y = .ref q ∧ SqL K H p (ns.map V.int) ∧ SqL K H q (ms.map V.int) ∧ Q (.bl (decide (ns = ms))) H
def rNeIL (K : PySem.W.Frag) : R2 := fun x y H Q => ∃ (p q : Addr) (ns ms : List Int), x = .ref p ∧ y = .ref q ∧ SqL K H p (ns.map V.int) ∧ SqL K H q (ms.map V.int) ∧ Q (.bl (!decide (ns = ms))) H
def rEqIT (K : PySem.W.Frag) : R2 := fun x y H Q => ∃ (p q : Addr) (ns ms : List Int), x = .ref p ∧ y = .ref q ∧ SqT K H p (ns.map V.int) ∧ SqT K H q (ms.map V.int) ∧ Q (.bl (decide (ns = ms))) H
def rNeIT (K : PySem.W.Frag) : R2 := fun x y H Q => ∃ (p q : Addr) (ns ms : List Int), x = .ref p ∧ y = .ref q ∧ SqT K H p (ns.map V.int) ∧ SqT K H q (ms.map V.int) ∧ Q (.bl (!decide (ns = ms))) H
theorem op_eqIL (hu : X.A.units + 64 < cLine) : OpR X (compareOp .Eq) (rEqIL X.K) := by
  intro pins s σ H x y v u Q I rx ry h
  obtain ⟨p, q, ns, ms, rfl, rfl, h1, h2, h3⟩ := h
  refine op_eqD hu pins s σ H _ _ v u Q I rx ry ⟨_, _, .lst h1 (dp_ints ns), .lst h2 (dp_ints ms), shaped_intsL ns, shaped_intsL ms, ?_⟩
  show Q (.bl (PyData.eqvAll (ns.map PyData.int) (ms.map PyData.int))) H
  rw [eqv_ints]
  exact h3
theorem op_neIL (hu : X.A.units + 64 < cLine) : OpR X (compareOp .NotEq) (rNeIL X.K) := by
  intro pins s σ H x y v u Q I rx ry h
  obtain ⟨p, q, ns, ms, rfl, rfl, h1, h2, h3⟩ := h
  refine op_neD hu pins s σ H _ _ v u Q I rx ry ⟨_, _, .lst h1 (dp_ints ns), .lst h2 (dp_ints ms), shaped_intsL ns, shaped_intsL ms, ?_⟩
  show Q (.bl (!PyData.eqvAll (ns.map PyData.int) (ms.map PyData.int))) H
  rw [eqv_ints]
  exact h3
theorem op_eqIT (hu : X.A.units + 64 < cLine) : OpR X (compareOp .Eq) (rEqIT X.K) := by
  intro pins s σ H x y v u Q I rx ry h
  obtain ⟨p, q, ns, ms, rfl, rfl, h1, h2, h3⟩ := h
  refine op_eqD hu pins s σ H _ _ v u Q I rx ry ⟨_, _, .tup h1 (dp_ints ns), .tup h2 (dp_ints ms), shaped_intsT ns, shaped_intsT ms, ?_⟩
  show Q (.bl (PyData.eqvAll (ns.map PyData.int) (ms.map PyData.int))) H
  rw [eqv_ints]
  exact h3
theorem op_neIT (hu : X.A.units + 64 < cLine) : OpR X (compareOp .NotEq) (rNeIT X.K) := by
  intro pins s σ H x y v u Q I rx ry h
  obtain ⟨p, q, ns, ms, rfl, rfl, h1, h2, h3⟩ := h
  refine op_neD hu pins s σ H _ _ v u Q I rx ry ⟨_, _, .tup h1 (dp_ints ns), .tup h2 (dp_ints ms), shaped_intsT ns, shaped_intsT ms, ?_⟩
  show Q (.bl (!PyData.eqvAll (ns.map PyData.int) (ms.map PyData.int))) H
  rw [eqv_ints]
  exact h3
end

section
variable {X : Cx}
def rRepS : R2 := fun x y H Q => ∃ l k xs, x = .ref l ∧ y = .int k ∧ H l = some (.lst xs) ∧ -(2 ^ 63) ≤ k ∧ k < 2 ^ 63 ∧ xs.length * k.toNat ≤ sizeLine ∧
  ∀ p H', H p = none → Same H H' → H' p = some (.lst (List.replicate k.toNat xs).flatten) → Q (.ref p) H'
theorem op_repS : OpR X (binaryOp .Mult) rRepS := by
  intro pins s σ H x y v u Q I rx ry h
  obtain ⟨l, k, xs, h1, h2, h3, h4, h5, h6, h7⟩ := h
  exact op_rep pins s σ H x y v u Q I rx ry ⟨l, k, xs, h1, h2, h3, h4, h5, h6, fun p hp => h7 p _ hp (Same.new hp) upd_same⟩
end
theorem flat1 {α : Type} (x : α) : ∀ n : Nat, (List.replicate n [x]).flatten = List.replicate n x
  | 0 => rfl
  | n + 1 => by rw [List.replicate_succ, List.flatten_cons, flat1 x n, List.replicate_succ]; rfl
def tLstRgS (te : L2.St → Hp → (Int → Int → Hp → Prop) → Prop) : TE := fun σ H Q => te σ H fun a b H1 => RgOk a b ∧ ∀ q H', H1 q = none → Same H1 H' → H' q = some (.lst (rgV a b)) → Q (.ref q) H'
/-- is_integer's answer -/
def isIntV : V → Bool
  | .int _ => true
  | _ => false
/-- the attributes of a new object: what an __init__ leaves -/
theorem sz_of {n : Nat} (h : n ≤ 100000) : n ≤ sizeLine := Nat.le_trans h (by decide)
theorem sz_lt {n : Nat} (h : n < 100000) : n < sizeLine := Nat.lt_of_lt_of_le h (by decide)

theorem atI_some {α : Type} {rs : List α} {i : Int} (h1 : -(rs.length : Int) ≤ i) (h2 : i < rs.length) : ∃ v, v ∈ rs ∧ atI rs i = some v := by
  unfold atI ixN
  by_cases h0 : 0 ≤ i
  · rw [if_pos h0, if_pos h2]
    have hj : i.toNat < rs.length := by omega
    exact ⟨rs[i.toNat], List.getElem_mem hj, by show rs[i.toNat]? = _; exact List.getElem?_eq_getElem hj⟩
  · rw [if_neg h0, if_pos h1]
    have hj : ((rs.length : Int) + i).toNat < rs.length := by omega
    refine ⟨rs[((rs.length : Int) + i).toNat], List.getElem_mem hj, ?_⟩
    first
      | exact List.getElem?_eq_getElem hj
      | (show rs[(i + rs.length).toNat]? = _; rw [Int.add_comm]; exact List.getElem?_eq_getElem hj)
theorem cutV_tail (x : V) (xs : List V) : cutV (x :: xs) (some 1) none = xs := by
  unfold cutV
  have e : HT.sIx (x :: xs).length 0 (some 1) = 1 := by
    unfold HT.sIx
    simp
  have e2 : HT.sIx (x :: xs).length (x :: xs).length none = (x :: xs).length := rfl
  rw [e, e2, List.drop_one, List.tail_cons, List.length_cons, Nat.add_sub_cancel, List.take_length]
/-- a rule's own words: the promise of a def without defaults -/
abbrev rawS (sp : Sp) : Sp := fun vs H Q E => sp (vs ++ []) H Q E
end Lf

set_option Elab.async false
set_option linter.all false
set_option maxRecDepth 100000
set_option maxHeartbeats 4000000
namespace Toy
open PySem L2 Lf
def top (i : Nat) : Stmt := PySem.Challenge.pw_linkedfilters_k57_answers_made.main.body.getD i (.Pass ⟨0, 0, 0, 0⟩)
abbrev s_is_integer : Stmt := top 2
abbrev s_repeated_positions : Stmt := top 8
abbrev s_Answer__init : Stmt := inClass (top 9) 0
abbrev s_Answer__len : Stmt := inClass (top 9) 1
abbrev s_Answer__getitem : Stmt := inClass (top 9) 2
abbrev s_Answer__contains : Stmt := inClass (top 9) 4
abbrev s_Answer__eq : Stmt := inClass (top 9) 5
abbrev s_Answer_times : Stmt := inClass (top 9) 7
abbrev s_l_bag : Stmt := top 11
abbrev s_l_draw : Stmt := top 12
abbrev s_l_of : Stmt := top 13
abbrev s_l_counts : Stmt := top 14
abbrev s_l_rows : Stmt := top 15
abbrev s_l_right : Stmt := top 16
abbrev s_law : Stmt := top 17
structure Ad where
  f_is_integer : Addr
  d_is_integer : FuncData
  f_repeated_positions : Addr
  d_repeated_positions : FuncData
  f_Answer__init : Addr
  d_Answer__init : FuncData
  f_Answer__len : Addr
  d_Answer__len : FuncData
  f_Answer__getitem : Addr
  d_Answer__getitem : FuncData
  f_Answer__contains : Addr
  d_Answer__contains : FuncData
  f_Answer__eq : Addr
  d_Answer__eq : FuncData
  f_Answer_times : Addr
  d_Answer_times : FuncData
  f_l_bag : Addr
  d_l_bag : FuncData
  f_l_draw : Addr
  d_l_draw : FuncData
  f_l_of : Addr
  d_l_of : FuncData
  f_l_counts : Addr
  d_l_counts : FuncData
  f_l_rows : Addr
  d_l_rows : FuncData
  f_l_right : Addr
  d_l_right : FuncData
  f_law : Addr
  d_law : FuncData
  C_Answer : Addr
structure Txt (K : PySem.W.Frag) (mg : Str → Option Value) (a : Ad) : Prop where
  F_is_integer : Fun K "is_integer" "is_integer" s_is_integer a.f_is_integer a.d_is_integer
  k_is_integer : PySem.W.keepIn K (.ref a.f_is_integer) = true
  a_is_integer : Binds K a.d_is_integer ["value"] []
  m_is_integer : mg "is_integer" = some (.ref a.f_is_integer)
  F_repeated_positions : Fun K "repeated_positions" "repeated_positions" s_repeated_positions a.f_repeated_positions a.d_repeated_positions
  k_repeated_positions : PySem.W.keepIn K (.ref a.f_repeated_positions) = true
  a_repeated_positions : Binds K a.d_repeated_positions ["times"] []
  m_repeated_positions : mg "repeated_positions" = some (.ref a.f_repeated_positions)
  F_Answer__init : FunD K "__init__" "Answer.__init__" (defArgs s_Answer__init) (defBody s_Answer__init) (defScope s_Answer__init) [] [("most", .int 3000)] a.f_Answer__init a.d_Answer__init
  k_Answer__init : PySem.W.keepIn K (.ref a.f_Answer__init) = true
  a_Answer__init : ∃ ds, Vals [.int 3000] ds ∧ Binds K a.d_Answer__init ["self", "times", "most"] ds
  t_Answer__init : Meth K a.C_Answer "__init__" a.f_Answer__init
  f_Answer__init : PySem.W.findIn K (.ref a.C_Answer) "__init__" = some (some (.ref a.f_Answer__init))
  i_Answer__init : PySem.W.isFn K (.ref a.f_Answer__init) = true
  fi_Answer__init : PySem.W.fnIn K a.f_Answer__init = true
  F_Answer__len : Fun K "__len__" "Answer.__len__" s_Answer__len a.f_Answer__len a.d_Answer__len
  k_Answer__len : PySem.W.keepIn K (.ref a.f_Answer__len) = true
  a_Answer__len : Binds K a.d_Answer__len ["self"] []
  t_Answer__len : Meth K a.C_Answer "__len__" a.f_Answer__len
  f_Answer__len : PySem.W.findIn K (.ref a.C_Answer) "__len__" = some (some (.ref a.f_Answer__len))
  i_Answer__len : PySem.W.isFn K (.ref a.f_Answer__len) = true
  fi_Answer__len : PySem.W.fnIn K a.f_Answer__len = true
  F_Answer__getitem : Fun K "__getitem__" "Answer.__getitem__" s_Answer__getitem a.f_Answer__getitem a.d_Answer__getitem
  k_Answer__getitem : PySem.W.keepIn K (.ref a.f_Answer__getitem) = true
  a_Answer__getitem : Binds K a.d_Answer__getitem ["self", "at"] []
  t_Answer__getitem : Meth K a.C_Answer "__getitem__" a.f_Answer__getitem
  f_Answer__getitem : PySem.W.findIn K (.ref a.C_Answer) "__getitem__" = some (some (.ref a.f_Answer__getitem))
  i_Answer__getitem : PySem.W.isFn K (.ref a.f_Answer__getitem) = true
  fi_Answer__getitem : PySem.W.fnIn K a.f_Answer__getitem = true
  F_Answer__contains : Fun K "__contains__" "Answer.__contains__" s_Answer__contains a.f_Answer__contains a.d_Answer__contains
  k_Answer__contains : PySem.W.keepIn K (.ref a.f_Answer__contains) = true
  a_Answer__contains : Binds K a.d_Answer__contains ["self", "position"] []
  t_Answer__contains : Meth K a.C_Answer "__contains__" a.f_Answer__contains
  f_Answer__contains : PySem.W.findIn K (.ref a.C_Answer) "__contains__" = some (some (.ref a.f_Answer__contains))
  i_Answer__contains : PySem.W.isFn K (.ref a.f_Answer__contains) = true
  fi_Answer__contains : PySem.W.fnIn K a.f_Answer__contains = true
  F_Answer__eq : Fun K "__eq__" "Answer.__eq__" s_Answer__eq a.f_Answer__eq a.d_Answer__eq
  k_Answer__eq : PySem.W.keepIn K (.ref a.f_Answer__eq) = true
  a_Answer__eq : Binds K a.d_Answer__eq ["self", "other"] []
  t_Answer__eq : Meth K a.C_Answer "__eq__" a.f_Answer__eq
  f_Answer__eq : PySem.W.findIn K (.ref a.C_Answer) "__eq__" = some (some (.ref a.f_Answer__eq))
  i_Answer__eq : PySem.W.isFn K (.ref a.f_Answer__eq) = true
  fi_Answer__eq : PySem.W.fnIn K a.f_Answer__eq = true
  F_Answer_times : Fun K "times" "Answer.times" s_Answer_times a.f_Answer_times a.d_Answer_times
  k_Answer_times : PySem.W.keepIn K (.ref a.f_Answer_times) = true
  a_Answer_times : Binds K a.d_Answer_times ["self", "position"] []
  t_Answer_times : Meth K a.C_Answer "times" a.f_Answer_times
  f_Answer_times : PySem.W.findIn K (.ref a.C_Answer) "times" = some (some (.ref a.f_Answer_times))
  i_Answer_times : PySem.W.isFn K (.ref a.f_Answer_times) = true
  fi_Answer_times : PySem.W.fnIn K a.f_Answer_times = true
  F_l_bag : Fun K "_law_bag" "_law_bag" s_l_bag a.f_l_bag a.d_l_bag
  k_l_bag : PySem.W.keepIn K (.ref a.f_l_bag) = true
  a_l_bag : Binds K a.d_l_bag ["_law_script", "_law_at"] []
  m_l_bag : mg "_law_bag" = some (.ref a.f_l_bag)
  F_l_draw : Fun K "_law_draw" "_law_draw" s_l_draw a.f_l_draw a.d_l_draw
  k_l_draw : PySem.W.keepIn K (.ref a.f_l_draw) = true
  a_l_draw : Binds K a.d_l_draw ["_law_bag_here", "_law_many"] []
  m_l_draw : mg "_law_draw" = some (.ref a.f_l_draw)
  F_l_of : Fun K "_law_of" "_law_of" s_l_of a.f_l_of a.d_l_of
  k_l_of : PySem.W.keepIn K (.ref a.f_l_of) = true
  a_l_of : Binds K a.d_l_of ["_law_bag_here", "_law_some"] []
  m_l_of : mg "_law_of" = some (.ref a.f_l_of)
  F_l_counts : Fun K "_law_counts" "_law_counts" s_l_counts a.f_l_counts a.d_l_counts
  k_l_counts : PySem.W.keepIn K (.ref a.f_l_counts) = true
  a_l_counts : Binds K a.d_l_counts ["_law_bag_here"] []
  m_l_counts : mg "_law_counts" = some (.ref a.f_l_counts)
  F_l_rows : Fun K "_law_rows" "_law_rows" s_l_rows a.f_l_rows a.d_l_rows
  k_l_rows : PySem.W.keepIn K (.ref a.f_l_rows) = true
  a_l_rows : Binds K a.d_l_rows ["_law_counts_here"] []
  m_l_rows : mg "_law_rows" = some (.ref a.f_l_rows)
  F_l_right : Fun K "_law_right" "_law_right" s_l_right a.f_l_right a.d_l_right
  k_l_right : PySem.W.keepIn K (.ref a.f_l_right) = true
  a_l_right : Binds K a.d_l_right ["_law_bag_here"] []
  m_l_right : mg "_law_right" = some (.ref a.f_l_right)
  F_law : Fun K "law" "law" s_law a.f_law a.d_law
  k_law : PySem.W.keepIn K (.ref a.f_law) = true
  a_law : Binds K a.d_law ["_law_script"] []
  m_law : mg "law" = some (.ref a.f_law)
  ct_Answer : ClsT K a.C_Answer
  m_Answer : mg "Answer" = some (.ref a.C_Answer)
  mk_Answer : Mk K a.C_Answer a.f_Answer__init
  nq_Answer : PySem.W.noSeq K a.C_Answer = true
  n_Answer_rows : NoAttr K a.C_Answer "rows"
  b_len : mg "len" = none
  b_abs : mg "abs" = none
  b_int : mg "int" = none
  b_range : mg "range" = none
  b_isinstance : mg "isinstance" = none
  b_max : mg "max" = none
  b_min : mg "min" = none
  b_sum : mg "sum" = none
  b_list : mg "list" = none
  b_tuple : mg "tuple" = none
  b_enumerate : mg "enumerate" = none
  b_any : mg "any" = none
  b_bool : mg "bool" = none
theorem Txt.c_Answer {K : PySem.W.Frag} {mg : Str → Option Value} {a : Ad} (T : Txt K mg a) : Cls K a.C_Answer := T.ct_Answer.cl
theorem Txt.o_Answer {K : PySem.W.Frag} {mg : Str → Option Value} {a : Ad} (T : Txt K mg a) : PySem.W.mroIn K a.C_Answer (.type "object") = some true := T.ct_Answer.cm
theorem Txt.ne_Answer {K : PySem.W.Frag} {mg : Str → Option Value} {a : Ad} (T : Txt K mg a) : PySem.W.findIn K (.ref a.C_Answer) "__ne__" = some (some (.builtin "object.__ne__")) := T.ct_Answer.ne
section
variable {P : Program} {w : World} {K : PySem.W.Frag} {mg : Str → Option Value} {base : Heap} {a : Ad}


/-- each place as often as the number at it says -/
def rowsF : Nat → List Int → List Int
  | _, [] => []
  | k, c :: r => List.replicate c.toNat (k : Int) ++ rowsF (k + 1) r
theorem rowsF_snoc (c : Int) : ∀ (k : Nat) (xs : List Int), rowsF k (xs ++ [c]) = rowsF k xs ++ List.replicate c.toNat ((k + xs.length : Nat) : Int)
  | k, [] => by show List.replicate c.toNat (k : Int) ++ [] = [] ++ _; rw [List.append_nil, List.nil_append]; rfl
  | k, x :: xs => by
    show List.replicate x.toNat (k : Int) ++ rowsF (k + 1) (xs ++ [c]) = List.replicate x.toNat (k : Int) ++ rowsF (k + 1) xs ++ _
    rw [rowsF_snoc c (k + 1) xs, List.append_assoc, List.length_cons]
    congr 4
    omega
theorem rowsF_take {ns : List Int} {i : Nat} {c : Int} (h : ns[i]? = some c) : rowsF 0 (ns.take (i + 1)) = rowsF 0 (ns.take i) ++ List.replicate c.toNat (i : Int) := by
  have hl : i < ns.length := (List.getElem?_eq_some_iff.mp h).1
  rw [List.take_add_one, h]
  show rowsF 0 (ns.take i ++ [c]) = _
  rw [rowsF_snoc, List.length_take, Nat.min_eq_left (Nat.le_of_lt hl), Nat.zero_add]
theorem rowsF_len : ∀ (k : Nat) (xs : List Int), (∀ c ∈ xs, 0 ≤ c) → ((rowsF k xs).length : Int) = xs.sum
  | _, [], _ => rfl
  | k, x :: xs, h => by
    have h1 := h x (List.mem_cons_self ..)
    have h2 := rowsF_len (k + 1) xs fun c hc => h c (List.mem_cons_of_mem _ hc)
    show ((List.replicate x.toNat (k : Int) ++ rowsF (k + 1) xs).length : Int) = (x :: xs).sum
    rw [List.length_append, List.length_replicate, List.sum_cons]
    omega
theorem sum_nonneg : ∀ (xs : List Int), (∀ c ∈ xs, 0 ≤ c) → 0 ≤ xs.sum
  | [], _ => by decide
  | x :: xs, h => by
    have h1 := h x (List.mem_cons_self ..)
    have h2 := sum_nonneg xs fun c hc => h c (List.mem_cons_of_mem _ hc)
    rw [List.sum_cons]
    omega
theorem take_sum_le : ∀ (xs : List Int) (i : Nat), (∀ c ∈ xs, 0 ≤ c) → (xs.take i).sum ≤ xs.sum
  | [], _, _ => by simp
  | x :: xs, 0, h => by
    have := sum_nonneg (x :: xs) h
    simpa using this
  | x :: xs, i + 1, h => by
    have h2 := take_sum_le xs i fun c hc => h c (List.mem_cons_of_mem _ hc)
    rw [List.take_succ_cons, List.sum_cons, List.sum_cons]
    omega
theorem mem_nonneg_take {xs : List Int} {i : Nat} (h : ∀ c ∈ xs, 0 ≤ c) : ∀ c ∈ xs.take i, 0 ≤ c := fun c hc => h c (List.mem_of_mem_take hc)
theorem le_sum : ∀ (xs : List Int) (c : Int), (∀ c ∈ xs, 0 ≤ c) → c ∈ xs → c ≤ xs.sum
  | x :: xs, c, h, hc => by
    have h1 := h x (List.mem_cons_self ..)
    have h2 := sum_nonneg xs fun c hc => h c (List.mem_cons_of_mem _ hc)
    rw [List.sum_cons]
    rcases List.mem_cons.mp hc with e | e
    · omega
    · have := le_sum xs c (fun c hc => h c (List.mem_cons_of_mem _ hc)) e
      omega

/-- is_integer: what its answer is -/
def spIsInt (K : PySem.W.Frag) : Sp := fun vs H Q _ => ∃ (v : V), vs = [v] ∧ ((∃ i, v = .int i ∧ Q (.bl true) H) ∨ (∃ b, v = .bl b ∧ Q (.bl false) H) ∨
  ∃ t : Value, TyX K H v t ∧ PySem.W.kitOne K t (.type "int") = some false ∧ Q (.bl false) H)
theorem sc_is_integer : FnScope ["value"] ["value"] (defScope s_is_integer) := ⟨rfl, rfl, rfl, by decide +kernel, rfl, by decide +kernel, by decide +kernel⟩
theorem ok_is_integer (T : Txt K mg a) : FnOk P w K mg base CX0 1 a.f_is_integer a.d_is_integer ["value"] (spIsInt K) := by
  refine T.F_is_integer.ok sc_is_integer (fun vs H Q E h => ?_) (fun cdv A outer s H vs Q E hr h => ?_)
  · obtain ⟨v, rfl, _⟩ := h
    rfl
  · obtain ⟨v, rfl, k⟩ := h
    refine ⟨_, (pss_one (ps_ret (pe_and (pe_callB call_isi (by rfl) T.b_isinstance (by decide +kernel) (pa_cons (pv 0) (pa_cons (pe_bltn (v := .ty "int") (by rfl) T.b_int (by decide +kernel) rfl) pa_nil))) (pe_one (pe_not (pe_callB call_isi (by rfl) T.b_isinstance (by decide +kernel) (pa_cons (pv 0) (pa_cons (pe_bltn (v := .ty "bool") (by rfl) T.b_bool (by decide +kernel) rfl) pa_nil)))))))), ?_⟩
    rcases k with ⟨i, rfl, k⟩ | ⟨b, rfl, k⟩ | ⟨t, ty, hk, k⟩
    · refine ⟨_, rfl, _, _, _, _, true, rfl, .ty _, .base (.int i), kit_ty (by decide +kernel), _, rfl, iteT ?_⟩
      exact ⟨_, rfl, _, _, _, _, false, rfl, .ty _, .base (.int i), kit_ty (by decide +kernel), _, rfl, k⟩
    · refine ⟨_, rfl, _, _, _, _, true, rfl, .ty _, .base (.bl b), kit_ty (by decide +kernel), _, rfl, iteT ?_⟩
      exact ⟨_, rfl, _, _, _, _, true, rfl, .ty _, .base (.bl b), kit_ty (by decide +kernel), _, rfl, k⟩
    · exact ⟨_, rfl, _, _, _, _, false, rfl, .ty _, ty, hk, _, rfl, iteF k⟩

/-- repeated_positions: a new tuple -/
def spRep (K : PySem.W.Frag) : Sp := fun vs H Q _ => ∃ (l : Addr) (ns : List Int), vs = [.ref l] ∧ SqL K H l (ns.map V.int) ∧ (∀ c ∈ ns, 0 ≤ c) ∧ ns.sum ≤ 50000 ∧
  ∀ p H', H p = none → Same H H' → TupD H' p ((rowsF 0 ns).map V.int) → Q (.ref p) H'
theorem sc_repeated_positions : FnScope ["times", "found", "at", "many"] ["times"] (defScope s_repeated_positions) := ⟨rfl, rfl, rfl, by decide +kernel, rfl, by decide +kernel, by decide +kernel⟩
theorem ok_repeated_positions (T : Txt K mg a) : FnOk P w K mg base CX0 1 a.f_repeated_positions a.d_repeated_positions ["times"] (spRep K) := by
  refine T.F_repeated_positions.ok sc_repeated_positions (fun vs H Q E h => ?_) (fun cdv A outer s H vs Q E hr h => ?_)
  · obtain ⟨l, ns, rfl, _⟩ := h
    rfl
  · obtain ⟨l, ns, rfl, hl, h0, hs, k⟩ := h
    refine ⟨_, (pss_cons (ps_set (i := 1) sc_repeated_positions.nd rfl (.inl rfl) (pe_lstS pa_nil))
      (pss_cons (ps_for PassesOwn.never rfl (pi_enum (by rfl) T.b_enumerate (pa_cons (pv 0) pa_nil)) (pg_tup rfl (pgs_cons (pg_name (i := 2) sc_repeated_positions.nd rfl (.inl rfl)) (pgs_cons (pg_name (i := 3) sc_repeated_positions.nd rfl (.inl rfl)) pgs_nil)))
      (pss_one (ps_expr (pe_bm PySem.F.plainAttrs_list PySem.F.slot_list_extend PySem.F.type_list_extend mt_extend (pv 1) (pa_cons (pe_op op_repS (pe_lstS (pa_cons (pv 2) pa_nil)) (pv 3)) pa_nil)))))
      (pss_one (ps_ret (pe_callTy call_tupleD (by rfl) T.b_tuple (by decide +kernel) (pa_cons (pv 1) pa_nil)))))), ?_⟩
    refine ⟨(by show 0 ≤ sizeLine; decide), fun D H1 nD s1 hD => ?_⟩
    have hl1 := s1.seq hl
    refine ⟨_, rfl, l, _, rfl, hl1, for_it (walk_enum (K := K) (a := l) (xs := ns.map V.int)) (fun i σ H' => ∃ (v2 v3 : Option V), σ = [some (.ref l), some (.ref D), v2, v3] ∧ H' D = some (.lst ((rowsF 0 (ns.take i)).map V.int)) ∧ ∀ q o, H q = some o → H' q = some o)
      ⟨_, _, rfl, hD, fun q o e => s1 q o e⟩ (fun i σ H' _ ⟨_, _, _, _, z⟩ => Same.seq z hl) ?_ ?_⟩
    · rintro i x σ H2 H3 hi ⟨v2, v3, rfl, hD2, z⟩ ⟨T1, x1, y1, rfl, nT, rfl, e1, e2⟩
      cases e1
      have e2' : (ns.map V.int)[i]? = some y1 := e2
      rw [List.getElem?_map] at e2'
      obtain ⟨c, hc, rfl⟩ := Option.map_eq_some_iff.mp e2'
      have hc0 : 0 ≤ c := h0 c (List.mem_of_getElem? hc)
      have hcs : c ≤ ns.sum := le_sum ns c h0 (List.mem_of_getElem? hc)
      have nDT : D ≠ T1 := ne_of_none hD2 nT
      have hD3 : (upd H2 T1 (.tup [.int (i : Nat), .int c])) D = some (.lst ((rowsF 0 (ns.take i)).map V.int)) := by rw [upd_ne nDT]; exact hD2
      refine ⟨T1, _, rfl, SqT.of upd_same, rfl, _, _, rfl, _, _, rfl, rfl, ?_⟩
      refine ⟨_, rfl, .inl ⟨rfl, _, SqL.of hD3⟩, _, rfl, (by show 1 ≤ sizeLine; decide), fun q H4 nq s4 hq => ?_⟩
      refine ⟨_, rfl, q, _, _, rfl, rfl, hq, by omega, by omega, ?_, fun r H5 nr s5 hr5 => ?_⟩
      · show 1 * c.toNat ≤ sizeLine
        exact sz_of (by omega)
      · have e3 : (List.replicate c.toNat [V.int (i : Nat)]).flatten = (List.replicate c.toNat (i : Int)).map V.int := by rw [flat1, List.map_replicate]
        rw [e3] at hr5
        have hlen : (((rowsF 0 (ns.take i)).length : Nat) : Int) ≤ ns.sum := by
          rw [rowsF_len 0 _ (mem_nonneg_take h0)]
          exact take_sum_le ns i h0
        refine ⟨D, r, _, _, rfl, rfl, s5 _ _ (s4 _ _ hD3), hr5, ?_, _, _, rfl, ?_, ?_⟩
        · rw [List.length_map, List.length_map, List.length_replicate]
          exact sz_of (by omega)
        · rw [upd_same, rowsF_take hc, List.map_append]
        · intro b o e
          have nb : b ≠ D := ne_of_none e nD
          rw [upd_ne nb]
          exact s5 b o (s4 b o ((Same.new nT) b o (z b o e)))
    · rintro σ H2 ⟨v2, v3, rfl, hD2, z⟩
      rw [List.length_map, List.take_length] at hD2
      exact ⟨_, rfl, D, _, rfl, SqL.of hD2, fun p H3 np s3 hp => k p H3 (Same.free z np) (Same.trans z s3) hp⟩
def fl_Answer (x0 : Addr) : List (Str × V) := [("rows", .ref x0)]
theorem lk_Answer_rows (x0 : Addr) : (fl_Answer x0).lookup ("rows" : Str) = some (.ref x0) := by unfold fl_Answer; exact lk0
theorem lk_Answer_no_times (x0 : Addr) : (fl_Answer x0).lookup ("times" : Str) = none := by unfold fl_Answer; rw [lk1 (by decide +kernel)]; rfl
/-- an answer with these rows -/
def AnsAt (a : Ad) (H : Hp) (x : Addr) (rs : List Int) : Prop := ∃ dx p, H x = some (.ins a.C_Answer dx (fl_Answer p)) ∧ TupD H p (rs.map V.int)
theorem AnsAt.keep {H H' : Hp} {x : Addr} {rs : List Int} (h : AnsAt a H x rs) (s : Same H H') : AnsAt a H' x rs := by
  obtain ⟨dx, p, h1, h2⟩ := h
  exact ⟨dx, p, s _ _ h1, h2.keep s⟩
theorem AnsAt.but {H H' : Hp} {x b : Addr} {rs : List Int} (h : AnsAt a H x rs) (s : But b H H') (hb : ∃ xs, H b = some (.lst xs)) : AnsAt a H' x rs := by
  obtain ⟨dx, p, h1, ⟨o, h2, h3⟩⟩ := h
  obtain ⟨xs, hb⟩ := hb
  exact ⟨dx, p, s _ _ h1 (ne_of h1 hb (by intro z; cases z)), o, s _ _ h2 (ne_of h2 hb (by intro z; cases z)), h3⟩

end
end Toy

set_option Elab.async false
set_option linter.all false
set_option maxRecDepth 100000
set_option maxHeartbeats 4000000
namespace Toy
open PySem L2 Lf
section
variable {P : Program} {w : World} {K : PySem.W.Frag} {mg : Str → Option Value} {base : Heap} {a : Ad}

theorem inV_ints (i : Int) : ∀ rs : List Int, inV (.int i) (rs.map V.int) = decide (i ∈ rs)
  | [] => rfl
  | r :: rs => by
    show (eqV (.int r) (.int i) || inV (.int i) (rs.map V.int)) = decide (i ∈ r :: rs)
    rw [inV_ints i rs]
    show ((r == i) || decide (i ∈ rs)) = decide (i ∈ r :: rs)
    by_cases h : r = i
    · subst h; simp
    · have h' : ¬ i = r := fun z => h z.symm
      simp [h, h']
theorem flat_ints : ∀ rs : List Int, (rs.map V.int).all flatV = true
  | [] => rfl
  | r :: rs => by rw [List.map_cons, List.all_cons, flat_ints rs]; rfl
def cutI (rs : List Int) (lo hi : Option Int) : List Int := (rs.drop (HT.sIx rs.length 0 lo)).take (HT.sIx rs.length rs.length hi - HT.sIx rs.length 0 lo)
theorem cutV_ints (rs : List Int) (lo hi : Option Int) : cutV (rs.map V.int) lo hi = (cutI rs lo hi).map V.int := by
  unfold cutV cutI
  rw [List.length_map, List.map_take, List.map_drop]
theorem cutV_whole {xs : List V} {lo hi : Option Int} (h : HT.sIx xs.length 0 lo = 0 ∧ HT.sIx xs.length xs.length hi = xs.length) : cutV xs lo hi = xs := by
  unfold cutV
  rw [h.1, h.2, List.drop_zero, Nat.sub_zero, List.take_length]
theorem atI_map {rs : List Int} {i v : Int} (h : atI rs i = some v) : atI (rs.map V.int) i = some (.int v) := by
  unfold atI at h ⊢
  rw [List.length_map]
  cases e : ixN rs.length i with
  | none => rw [e] at h; cases h
  | some j =>
    rw [e] at h
    have h' : rs[j]? = some v := h
    show (rs.map V.int)[j]? = some (.int v)
    rw [List.getElem?_map, h']
    rfl
def spAInit (K : PySem.W.Frag) (a : Ad) : Sp := fun vs H Q _ => ∃ (x dx l : Addr) (ns : List Int) (most : Int), vs = [.ref x, .ref l, .int most] ∧ H x = some (.ins a.C_Answer dx []) ∧ SqL K H l (ns.map V.int) ∧ (∀ c ∈ ns, 0 ≤ c) ∧ ns.sum ≤ most ∧ ns.sum ≤ 50000 ∧
  ∀ p H', But x H H' → H' x = some (.ins a.C_Answer dx (fl_Answer p)) → TupD H' p ((rowsF 0 ns).map V.int) → Q .non H'
theorem sc_Answer__init : FnScope ["self", "times", "most"] ["self", "times", "most"] (defScope s_Answer__init) := ⟨rfl, rfl, rfl, by decide +kernel, rfl, by decide +kernel, by decide +kernel⟩
theorem ok_Answer__init (T : Txt K mg a) : FnOk P w K mg base CX0 2 a.f_Answer__init a.d_Answer__init ["self", "times", "most"] (spAInit K a) := by
  refine T.F_Answer__init.ok sc_Answer__init (fun vs H Q E h => ?_) (fun cdv A outer s H vs Q E hr h => ?_)
  · obtain ⟨x, dx, l, ns, most, rfl, _⟩ := h
    rfl
  · obtain ⟨x, dx, l, ns, most, rfl, hx, hl, h0, hs, hs2, k⟩ := h
    refine ⟨_, (pss_cons (ps_if (pt_cmpR op_gt (pe_callB (cr_sum rfl) (by rfl) T.b_sum (by decide +kernel) (pa_cons (pe_callTy call_list_ofS (by rfl) T.b_list (by decide +kernel) (pa_cons (pv 1) pa_nil)) pa_nil)) (pv 2) (nomark _)) (pss_one ps_never) pss_nil)
      (pss_one (ps_fld (pv 0) (pe_call (ok_repeated_positions T) (hr.mono (by decide)) rfl T.m_repeated_positions T.k_repeated_positions T.a_repeated_positions .nil pass0 (pa_cons (pv 1) pa_nil)) rfl))), ?_⟩
    refine ⟨_, rfl, l, _, rfl, .inl hl, fun q H1 nq s1 hq => ?_⟩
    refine ⟨q, ns, rfl, SqL.of hq, _, rfl, _, _, rfl, rfl, _, rfl, ?_⟩
    refine ite2 (fun h => absurd (of_decide_eq_true h) (by omega)) (fun _ => ?_)
    refine ⟨_, rfl, l, ns, rfl, s1.seq hl, h0, hs2, fun p H2 np s2 hp => ?_⟩
    have hx2 := s2 _ _ (s1 _ _ hx)
    refine ⟨_, rfl, x, a.C_Answer, dx, [], rfl, hx2, T.c_Answer, T.n_Answer_rows, (by show 0 < 1000; decide), ?_⟩
    obtain ⟨o, ho, hd⟩ := hp
    have npx : p ≠ x := ne_of ho hx2 (by intro z; cases z)
    refine k p _ (fun b o e nb => ?_) upd_same ⟨o, by rw [upd_ne npx]; exact ho, hd⟩
    rw [upd_ne nb]
    exact s2 b o (s1 b o e)

def spALen (a : Ad) : Sp := fun vs H Q _ => ∃ (x : Addr) (rs : List Int), vs = [.ref x] ∧ AnsAt a H x rs ∧ Q (.int (rs.length : Nat)) H
theorem sc_Answer__len : FnScope ["self"] ["self"] (defScope s_Answer__len) := ⟨rfl, rfl, rfl, by decide +kernel, rfl, by decide +kernel, by decide +kernel⟩
theorem ok_Answer__len (T : Txt K mg a) : FnOk P w K mg base CX0 1 a.f_Answer__len a.d_Answer__len ["self"] (spALen a) := by
  refine T.F_Answer__len.ok sc_Answer__len (fun vs H Q E h => ?_) (fun cdv A outer s H vs Q E hr h => ?_)
  · obtain ⟨x, rs, rfl, _⟩ := h
    rfl
  · obtain ⟨x, rs, rfl, hx, k⟩ := h
    refine ⟨_, (pss_one (ps_ret (pe_callB call_len_seq (by rfl) T.b_len PySem.boot_len (pa_cons (pe_fld (pv 0) rfl) pa_nil)))), ?_⟩
    obtain ⟨dx, p, h1, h2⟩ := hx
    refine ⟨_, rfl, x, a.C_Answer, dx, _, _, rfl, h1, T.c_Answer, T.n_Answer_rows, lk_Answer_rows _, p, _, rfl, .inr h2.seq, ?_⟩
    rw [List.length_map]
    exact k

def spAItem (K : PySem.W.Frag) (a : Ad) : Sp := fun vs H Q _ => ∃ (x : Addr) (rs : List Int) (y : V), vs = [.ref x, y] ∧ AnsAt a H x rs ∧
  ((∃ i v, y = .int i ∧ atI rs i = some v ∧ Q (.int v) H) ∨ ∃ (sl : Addr) (lo hi : Option Int), y = .ref sl ∧ H sl = some (SliceO sl lo hi) ∧ ∀ p H', Same H H' → SqT K H' p ((cutI rs lo hi).map V.int) → TyX K H' (.ref p) (.type "tuple") → Q (.ref p) H')
theorem sc_Answer__getitem : FnScope ["self", "at"] ["self", "at"] (defScope s_Answer__getitem) := ⟨rfl, rfl, rfl, by decide +kernel, rfl, by decide +kernel, by decide +kernel⟩
theorem ok_Answer__getitem (T : Txt K mg a) : FnOk P w K mg base CX0 1 a.f_Answer__getitem a.d_Answer__getitem ["self", "at"] (spAItem K a) := by
  refine T.F_Answer__getitem.ok sc_Answer__getitem (fun vs H Q E h => ?_) (fun cdv A outer s H vs Q E hr h => ?_)
  · obtain ⟨x, rs, y, rfl, _⟩ := h
    rfl
  · obtain ⟨x, rs, y, rfl, hx, k⟩ := h
    refine ⟨_, (pss_one (ps_ret (pe_ix ix_tupS (pe_fld (pv 0) rfl) (pv 1) (fun _ _ => rfl)))), ?_⟩
    obtain ⟨dx, p, h1, h2⟩ := hx
    refine ⟨_, rfl, x, a.C_Answer, dx, _, _, rfl, h1, T.c_Answer, T.n_Answer_rows, lk_Answer_rows _, _, rfl, ?_⟩
    rcases k with ⟨i, v, rfl, hi, k⟩ | ⟨sl, lo, hi, rfl, hsl, k⟩
    · exact .inl ⟨p, _, i, _, rfl, rfl, h2.seq, atI_map hi, k⟩
    · refine .inr ⟨sl, lo, hi, rfl, hsl, p, _, rfl, h2.seq, fun hw => ?_, fun _ q nq => ?_⟩
      · refine k p H (Same.refl _) ?_ h2.ty
        rw [← cutV_ints, cutV_whole hw]
        exact h2.seq
      · refine k q _ (Same.new nq) ?_ (.base (.tup upd_same))
        rw [← cutV_ints]
        exact SqT.of upd_same

def spAHas (K : PySem.W.Frag) (a : Ad) : Sp := fun vs H Q _ => ∃ (x : Addr) (rs : List Int) (v : V), vs = [.ref x, v] ∧ AnsAt a H x rs ∧
  ((∃ i, v = .int i ∧ Q (.bl (decide (i ∈ rs))) H) ∨ (∃ b, v = .bl b ∧ Q (.bl false) H) ∨ ∃ t : Value, TyX K H v t ∧ PySem.W.kitOne K t (.type "int") = some false ∧ Q (.bl false) H)
theorem sc_Answer__contains : FnScope ["self", "position"] ["self", "position"] (defScope s_Answer__contains) := ⟨rfl, rfl, rfl, by decide +kernel, rfl, by decide +kernel, by decide +kernel⟩
theorem ok_Answer__contains (T : Txt K mg a) : FnOk P w K mg base CX0 2 a.f_Answer__contains a.d_Answer__contains ["self", "position"] (spAHas K a) := by
  refine T.F_Answer__contains.ok sc_Answer__contains (fun vs H Q E h => ?_) (fun cdv A outer s H vs Q E hr h => ?_)
  · obtain ⟨x, rs, v, rfl, _⟩ := h
    rfl
  · obtain ⟨x, rs, v, rfl, hx, k⟩ := h
    refine ⟨_, (pss_one (ps_ret (pe_and (pe_call (ok_is_integer T) (hr.mono (by decide)) rfl T.m_is_integer T.k_is_integer T.a_is_integer .nil pass0 (pa_cons (pv 1) pa_nil)) (pe_one (pe_cmpR op_in_seq (pv 1) (pe_fld (pv 0) rfl) rfl))))), ?_⟩
    obtain ⟨dx, p, h1, h2⟩ := hx
    rcases k with ⟨i, rfl, k⟩ | ⟨b, rfl, k⟩ | ⟨t, ty, hk, k⟩
    · refine ⟨_, rfl, _, rfl, .inl ⟨i, rfl, _, rfl, iteT ?_⟩⟩
      refine ⟨_, rfl, _, rfl, x, a.C_Answer, dx, _, _, rfl, h1, T.c_Answer, T.n_Answer_rows, lk_Answer_rows _, p, _, rfl, .inr h2.seq, rfl, flat_ints rs, ?_⟩
      show Q (.bl (inV (.int i) (rs.map V.int))) H
      rw [inV_ints]
      exact k
    · exact ⟨_, rfl, _, rfl, .inr (.inl ⟨b, rfl, _, rfl, iteF k⟩)⟩
    · exact ⟨_, rfl, _, rfl, .inr (.inr ⟨t, ty, hk, _, rfl, iteF k⟩)⟩

def spAEq (K : PySem.W.Frag) (a : Ad) : Sp := fun vs H Q _ => ∃ (x : Addr) (rs : List Int) (y : V), vs = [.ref x, y] ∧ AnsAt a H x rs ∧
  ((∃ q rs', y = .ref q ∧ AnsAt a H q rs' ∧ Q (.bl (decide (rs = rs'))) H) ∨ ∃ t : String, TyX K H y (.type t) ∧ (fastBuiltinMro t).any noRefs = true ∧ Q (.bl false) H)
theorem sc_Answer__eq : FnScope ["self", "other"] ["self", "other"] (defScope s_Answer__eq) := ⟨rfl, rfl, rfl, by decide +kernel, rfl, by decide +kernel, by decide +kernel⟩
theorem ok_Answer__eq (T : Txt K mg a) : FnOk P w K mg base CX0 1 a.f_Answer__eq a.d_Answer__eq ["self", "other"] (spAEq K a) := by
  refine T.F_Answer__eq.ok sc_Answer__eq (fun vs H Q E h => ?_) (fun cdv A outer s H vs Q E hr h => ?_)
  · obtain ⟨x, rs, y, rfl, _⟩ := h
    rfl
  · obtain ⟨x, rs, y, rfl, hx, k⟩ := h
    refine ⟨_, (pss_one (ps_ret (pe_and (pe_callB call_isi (by rfl) T.b_isinstance (by decide +kernel) (pa_cons (pv 1) (pa_cons (pe_glob (v := .ref a.C_Answer) rfl T.m_Answer rfl) pa_nil))) (pe_one (pe_cmpR (op_eqIT hr.units) (pe_fld (pv 0) rfl) (pe_fld (pv 1) rfl) (nomark _)))))), ?_⟩
    obtain ⟨dx, p, h1, h2⟩ := hx
    rcases k with ⟨q, rs', rfl, ⟨dq, p', h3, h4⟩, k⟩ | ⟨t, ty, ht, k⟩
    · refine ⟨_, rfl, _, _, _, _, true, rfl, .own _, T.ct_Answer.ty h3, kit_own, _, rfl, iteT ?_⟩
      exact ⟨_, rfl, x, a.C_Answer, dx, _, _, rfl, h1, T.c_Answer, T.n_Answer_rows, lk_Answer_rows _, _, rfl, q, a.C_Answer, dq, _, _, rfl, h3, T.c_Answer, T.n_Answer_rows, lk_Answer_rows _, p, p', rs, rs', rfl, rfl, h2.seq, h4.seq, k⟩
    · exact ⟨_, rfl, _, _, _, _, false, rfl, .own _, ty, T.ct_Answer.kitTy ht, _, rfl, iteF k⟩

def spATimes (a : Ad) : Sp := fun vs H Q _ => ∃ (x : Addr) (rs : List Int) (i : Int), vs = [.ref x, .int i] ∧ AnsAt a H x rs ∧ Q (.int (rs.count i : Nat)) H
theorem sc_Answer_times : FnScope ["self", "position"] ["self", "position"] (defScope s_Answer_times) := ⟨rfl, rfl, rfl, by decide +kernel, rfl, by decide +kernel, by decide +kernel⟩
theorem ok_Answer_times (T : Txt K mg a) : FnOk P w K mg base CX0 1 a.f_Answer_times a.d_Answer_times ["self", "position"] (spATimes a) := by
  refine T.F_Answer_times.ok sc_Answer_times (fun vs H Q E h => ?_) (fun cdv A outer s H vs Q E hr h => ?_)
  · obtain ⟨x, rs, i, rfl, _⟩ := h
    rfl
  · obtain ⟨x, rs, i, rfl, hx, k⟩ := h
    refine ⟨_, (pss_one (ps_ret (pe_bmT PySem.F.plainAttrs_tuple PySem.F.slot_tuple_count PySem.F.type_tuple_count mt_tcount (pe_fld (pv 0) rfl) (pa_cons (pv 1) pa_nil)))), ?_⟩
    obtain ⟨dx, p, h1, h2⟩ := hx
    exact ⟨_, rfl, x, a.C_Answer, dx, _, _, rfl, h1, T.c_Answer, T.n_Answer_rows, lk_Answer_rows _, ⟨p, _, rfl, h2⟩, _, rfl, p, rs, i, rfl, rfl, h2.seq, k⟩

def spBag (K : PySem.W.Frag) : Sp := fun vs H Q _ => ∃ (s : Addr) (ns : List Int) (i : Nat), vs = [.ref s, .int i] ∧ SqL K H s (ns.map V.int) ∧ i < 64 ∧
  ∀ (b : Addr) (d m : Int) (H' : Hp), H b = none → Same H H' → H' b = some (.lst [.int d, .int m, .int 0]) → 0 ≤ d → 0 ≤ m → m < 2 ^ 62 → Q (.ref b) H'
theorem sc_l_bag : FnScope ["_law_script", "_law_at", "_law_cell", "_law_digits"] ["_law_script", "_law_at"] (defScope s_l_bag) := ⟨rfl, rfl, rfl, by decide +kernel, rfl, by decide +kernel, by decide +kernel⟩
theorem ok_l_bag (T : Txt K mg a) : FnOk P w K mg base CX0 1 a.f_l_bag a.d_l_bag ["_law_script", "_law_at"] (spBag K) := by
  refine T.F_l_bag.ok sc_l_bag (fun vs H Q E h => ?_) (fun cdv A outer s H vs Q E hr h => ?_)
  · obtain ⟨b, ns, i, rfl, _⟩ := h
    rfl
  · obtain ⟨b, ns, i, rfl, hS, hi, k⟩ := h
    refine ⟨_, (pss_cons (ps_set (i := 2) sc_l_bag.nd rfl (.inl rfl) (pe_ifExp (pt_cmpR op_lt (pv 1) (pe_callB call_len_seq (by rfl) T.b_len PySem.boot_len (pa_cons (pv 0) pa_nil)) (nomark _)) (pe_ix ix_list (pv 0) (pv 1) (fun _ _ => rfl)) pe_int))
      (pss_cons (ps_set (i := 3) sc_l_bag.nd rfl (.inl rfl) (pe_ifExp (pt_cmpR op_ge (pe_callB call_abs (by rfl) T.b_abs (by decide +kernel) (pa_cons (pv 2) pa_nil)) (pe_op op_pow pe_int pe_int) (nomark _)) (pe_callB call_abs (by rfl) T.b_abs (by decide +kernel) (pa_cons (pv 2) pa_nil)) pe_int))
      (pss_one (ps_ret (pe_lstS (pa_cons (pv 3) (pa_cons (pe_op op_add (pe_op op_add (pe_op op_mod (pe_callTy call_int1 (by rfl) T.b_int (by decide +kernel) (pa_cons (pv 2) pa_nil)) pe_int) (pe_op op_mul pe_int (pv 1))) pe_int) (pa_cons pe_int pa_nil)))))))), ?_⟩
    refine ⟨_, rfl, _, rfl, b, _, rfl, .inl hS, _, _, rfl, rfl, _, rfl, ?_⟩
    refine ite2 (fun h => ?_) (fun h => ?_)
    · have h1 : ((i : Nat) : Int) < ((ns.map V.int).length : Nat) := of_decide_eq_true h
      have h2 : i < ns.length := by rw [List.length_map] at h1; omega
      refine ⟨_, rfl, _, rfl, b, _, _, .int (ns[i]), rfl, rfl, hS, atI_nat (by rw [List.getElem?_map, List.getElem?_eq_getElem h2]; rfl), ?_⟩
      generalize ns[i] = c
      refine ⟨_, rfl, _, rfl, _, _, rfl, rfl, ⟨by decide, by decide, by decide⟩, _, _, rfl, rfl, _, rfl, ?_⟩
      refine ite2 (fun h => ?_) (fun h => ?_)
      · refine ⟨_, rfl, _, rfl, _, rfl, _, rfl, .inl ⟨_, rfl, _, _, rfl, rfl, (by show (0 : Int) < 999999999989; decide), _, rfl, _, _, rfl, rfl, .inl ⟨by decide, by decide⟩, _, _, rfl, rfl, _, _, rfl, rfl, (by show 3 ≤ sizeLine; decide), fun p H' hp sm hp' => ?_⟩⟩
        have e1 := Int.emod_nonneg c (show (999999999989 : Int) ≠ 0 by decide)
        have e2 := Int.emod_lt_of_pos c (show (0 : Int) < 999999999989 by decide)
        exact k p _ _ H' hp sm hp' (by split <;> omega) (by omega) (by omega)
      · refine ⟨_, rfl, _, rfl, .inl ⟨_, rfl, _, _, rfl, rfl, (by show (0 : Int) < 999999999989; decide), _, rfl, _, _, rfl, rfl, .inl ⟨by decide, by decide⟩, _, _, rfl, rfl, _, _, rfl, rfl, (by show 3 ≤ sizeLine; decide), fun p H' hp sm hp' => ?_⟩⟩
        have e1 := Int.emod_nonneg c (show (999999999989 : Int) ≠ 0 by decide)
        have e2 := Int.emod_lt_of_pos c (show (0 : Int) < 999999999989 by decide)
        exact k p _ _ H' hp sm hp' (by omega) (by omega) (by omega)
    · refine ⟨_, rfl, _, rfl, _, _, rfl, rfl, ⟨by decide, by decide, by decide⟩, _, _, rfl, rfl, _, rfl, ?_⟩
      refine ite2 (fun h => ?_) (fun h => ?_)
      · exact absurd (of_decide_eq_true h) (by decide)
      · refine ⟨_, rfl, _, rfl, .inl ⟨_, rfl, _, _, rfl, rfl, (by show (0 : Int) < 999999999989; decide), _, rfl, _, _, rfl, rfl, .inl ⟨by decide, by decide⟩, _, _, rfl, rfl, _, _, rfl, rfl, (by show 3 ≤ sizeLine; decide), fun p H' hp sm hp' => ?_⟩⟩
        exact k p _ _ H' hp sm hp' (by omega) (by omega) (by omega)

def BagAt (H : Hp) (b : Addr) (n : Nat) : Prop := ∃ d m c : Int, H b = some (.lst [.int d, .int m, .int c]) ∧ 0 ≤ d ∧ 0 ≤ m ∧ m < 2 ^ 62 ∧ 0 ≤ c ∧ c ≤ n
def spDraw : Sp := fun vs H Q _ => ∃ (b : Addr) (n : Nat) (many : Int), vs = [.ref b, .int many] ∧ BagAt H b n ∧ n < 2 ^ 30 ∧ 0 < many ∧ many < 2 ^ 30 ∧
  ∀ (r : Int) (H' : Hp), 0 ≤ r → r < many → BagAt H' b (n + 1) → But b H H' → Q (.int r) H'
theorem sc_l_draw : FnScope ["_law_bag_here", "_law_many", "_law_digit", "_law_mixed"] ["_law_bag_here", "_law_many"] (defScope s_l_draw) := ⟨rfl, rfl, rfl, by decide +kernel, rfl, by decide +kernel, by decide +kernel⟩
theorem ok_l_draw (T : Txt K mg a) : FnOk P w K mg base CX0 1 a.f_l_draw a.d_l_draw ["_law_bag_here", "_law_many"] spDraw := by
  refine T.F_l_draw.ok sc_l_draw (fun vs H Q E h => ?_) (fun cdv A outer s H vs Q E hr h => ?_)
  · obtain ⟨b, n, i, rfl, _⟩ := h
    rfl
  · obtain ⟨b, n, many, rfl, ⟨d, m, c, hb, d0, m0, m1, c0, c1⟩, hn, p0, p1, k⟩ := h
    refine ⟨_, (pss_cons (ps_if (pt_cmpR op_gt (pe_ix ix_list (pv 0) pe_int (fun _ _ => rfl)) pe_int (nomark _)) (pss_cons (ps_set (i := 2) sc_l_draw.nd rfl (.inl rfl) (pe_op op_mod (pe_callTy call_int1 (by rfl) T.b_int (by decide +kernel) (pa_cons (pe_ix ix_list (pv 0) pe_int (fun _ _ => rfl)) pa_nil)) (pv 1)))
      (pss_cons (ps_asg (pe_op op_fdiv (pe_ix ix_list (pv 0) pe_int (fun _ _ => rfl)) (pv 1)) (pg_sub (pv 0) pe_int set_list))
      (pss_one (ps_ret (pv 2))))) pss_nil)
      (pss_cons (ps_asg (pe_op op_add (pe_ix ix_list (pv 0) pe_int (fun _ _ => rfl)) pe_int) (pg_sub (pv 0) pe_int set_list))
      (pss_cons (ps_set (i := 3) sc_l_draw.nd rfl (.inl rfl) (pe_op op_mod (pe_callTy call_int1 (by rfl) T.b_int (by decide +kernel) (pa_cons (pe_op op_pow (pe_op op_add (pe_ix ix_list (pv 0) pe_int (fun _ _ => rfl)) (pe_op op_mul pe_int (pe_ix ix_list (pv 0) pe_int (fun _ _ => rfl)))) pe_int) pa_nil)) pe_int))
      (pss_cons (ps_set (i := 3) sc_l_draw.nd rfl (.inl rfl) (pe_op op_mod (pe_callTy call_int1 (by rfl) T.b_int (by decide +kernel) (pa_cons (pe_op op_pow (pe_op op_add (pv 3) (pe_op op_mul pe_int (pe_ix ix_list (pv 0) pe_int (fun _ _ => rfl)))) pe_int) pa_nil)) pe_int))
      (pss_one (ps_ret (pe_op op_mod (pe_callTy call_int1 (by rfl) T.b_int (by decide +kernel) (pa_cons (pe_op op_fdiv (pv 3) pe_int) pa_nil)) (pv 1)))))))), ?_⟩
    refine ⟨_, rfl, b, _, _, _, rfl, rfl, SqL.of hb, rfl, _, _, rfl, rfl, _, rfl, ?_⟩
    refine ite2 (fun h => ?_) (fun h => ?_)
    · have h1 : 0 < d := of_decide_eq_true h
      refine ⟨_, rfl, b, _, _, _, rfl, rfl, SqL.of hb, rfl, .inl ⟨_, rfl, _, rfl, _, _, rfl, rfl, p0, ?_⟩⟩
      refine ⟨_, rfl, b, _, _, _, rfl, rfl, SqL.of hb, rfl, _, rfl, _, _, rfl, rfl, ⟨p0, by omega⟩, ?_⟩
      refine ⟨_, rfl, b, _, _, _, rfl, rfl, hb, rfl, ?_⟩
      refine ⟨_, rfl, ?_⟩
      refine k _ _ (Int.emod_nonneg _ (by omega)) (Int.emod_lt_of_pos _ p0) ⟨d / many, m, c, upd_same, Int.ediv_nonneg d0 (by omega), m0, m1, c0, by omega⟩ But.upd
    · refine ⟨_, rfl, b, _, _, _, rfl, rfl, SqL.of hb, rfl, _, _, rfl, rfl, ?_⟩
      refine ⟨_, rfl, b, _, _, _, rfl, rfl, hb, rfl, ?_⟩
      have hb2 : (upd H b (.lst ([V.int d, V.int m, V.int c].set 2 (V.int (c + 1))))) b = some (.lst [.int d, .int m, .int (c + 1)]) := upd_same
      refine ⟨_, rfl, b, _, _, _, rfl, rfl, SqL.of hb2, rfl, _, rfl, b, _, _, _, rfl, rfl, SqL.of hb2, rfl, _, _, rfl, rfl, .inl ⟨by decide, by decide⟩, _, _, rfl, rfl, _, _, rfl, rfl, ⟨by decide, by decide, by omega⟩, .inl ⟨_, rfl, _, _, rfl, rfl, (by show (0 : Int) < 2147483629; decide), ?_⟩⟩
      generalize e : (m + 7368787 * (c + 1)) ^ Int.toNat 5 % 2147483629 = x
      have x0 : 0 ≤ x := by rw [← e]; exact Int.emod_nonneg _ (by decide)
      have x1 : x < 2147483629 := by rw [← e]; exact Int.emod_lt_of_pos _ (by decide)
      refine ⟨_, rfl, _, rfl, b, _, _, _, rfl, rfl, SqL.of hb2, rfl, _, _, rfl, rfl, .inl ⟨by decide, by decide⟩, _, _, rfl, rfl, _, _, rfl, rfl, ⟨by decide, by decide, by omega⟩, .inl ⟨_, rfl, _, _, rfl, rfl, (by show (0 : Int) < 1000000007; decide), ?_⟩⟩
      generalize e2 : (x + 15485863 * (c + 1)) ^ Int.toNat 3 % 1000000007 = y
      refine ⟨_, rfl, _, _, rfl, rfl, ⟨by decide, by decide⟩, .inl ⟨_, rfl, _, rfl, _, _, rfl, rfl, p0, ?_⟩⟩
      exact k _ _ (Int.emod_nonneg _ (by omega)) (Int.emod_lt_of_pos _ p0) ⟨d, m, c + 1, hb2, d0, m0, m1, by omega, by omega⟩ But.upd

/-- one of some values -/
def spOf (K : PySem.W.Frag) : Sp := fun vs H Q _ => ∃ (b l : Addr) (n : Nat) (xs : List V), vs = [.ref b, .ref l] ∧ BagAt H b n ∧ n < 2 ^ 30 ∧ SqL K H l xs ∧ l ≠ b ∧ xs ≠ [] ∧ xs.length < 2 ^ 30 ∧
  ∀ (x : V) (H' : Hp), x ∈ xs → BagAt H' b (n + 1) → But b H H' → Q x H'
theorem sc_l_of : FnScope ["_law_bag_here", "_law_some"] ["_law_bag_here", "_law_some"] (defScope s_l_of) := ⟨rfl, rfl, rfl, by decide +kernel, rfl, by decide +kernel, by decide +kernel⟩
theorem ok_l_of (T : Txt K mg a) : FnOk P w K mg base CX0 2 a.f_l_of a.d_l_of ["_law_bag_here", "_law_some"] (spOf K) := by
  refine T.F_l_of.ok sc_l_of (fun vs H Q E h => ?_) (fun cdv A outer s H vs Q E hr h => ?_)
  · obtain ⟨b, l, n, xs, rfl, _⟩ := h
    rfl
  · obtain ⟨b, l, n, xs, rfl, hb, hn, hl, hne, h0, h1, k⟩ := h
    have hx : 0 < xs.length := List.length_pos_iff.mpr h0
    refine ⟨_, (pss_one (ps_ret (pe_ix ix_list (pv 1) (pe_call (ok_l_draw T) (hr.mono (by decide)) rfl T.m_l_draw T.k_l_draw T.a_l_draw .nil pass0 (pa_cons (pv 0) (pa_cons (pe_callB call_len_seq (by rfl) T.b_len PySem.boot_len (pa_cons (pv 1) pa_nil)) pa_nil))) (fun _ _ => rfl)))), ?_⟩
    refine ⟨_, rfl, _, rfl, _, rfl, l, _, rfl, .inl hl, b, n, _, rfl, hb, hn, by omega, by omega, fun r H' r0 r1 hb' bt => ?_⟩
    obtain ⟨j, rfl⟩ : ∃ j : Nat, r = j := ⟨r.toNat, by omega⟩
    have hj : j < xs.length := by omega
    refine ⟨l, _, _, xs[j], rfl, rfl, bt.seq hne hl, atI_nat (List.getElem?_eq_getElem hj), ?_⟩
    exact k _ H' (List.getElem_mem hj) hb' bt

end
end Toy

set_option Elab.async false
set_option linter.all false
set_option maxRecDepth 100000
set_option maxHeartbeats 4000000
namespace Toy
open PySem L2 Lf
section
variable {P : Program} {w : World} {K : PySem.W.Frag} {mg : Str → Option Value} {base : Heap} {a : Ad}

theorem BagAt.mono {H : Hp} {b : Addr} {m n : Nat} (h : BagAt H b m) (e : m ≤ n) : BagAt H b n := by
  obtain ⟨d, x, c, h1, h2, h3, h4, h5, h6⟩ := h
  exact ⟨d, x, c, h1, h2, h3, h4, h5, by omega⟩
theorem BagAt.keep {H H' : Hp} {b : Addr} {n : Nat} (h : BagAt H b n) (s : Same H H') : BagAt H' b n := by
  obtain ⟨d, x, c, h1, h2⟩ := h
  exact ⟨d, x, c, s _ _ h1, h2⟩
theorem BagAt.ne {H : Hp} {b p : Addr} {n : Nat} (h : BagAt H b n) (e : H p = none) : p ≠ b := by
  obtain ⟨d, x, c, h1, _⟩ := h
  exact (ne_of_none h1 e).symm
theorem BagAt.upd {H : Hp} {b p : Addr} {o : HO} {n : Nat} (h : BagAt H b n) (e : p ≠ b) : BagAt (upd H p o) b n := by
  obtain ⟨d, x, c, h1, h2⟩ := h
  exact ⟨d, x, c, by rw [upd_ne e.symm]; exact h1, h2⟩
theorem BagAt.lst {H : Hp} {b : Addr} {n : Nat} (h : BagAt H b n) : ∃ xs, H b = some (.lst xs) := by
  obtain ⟨d, x, c, h1, h2⟩ := h
  exact ⟨_, h1⟩
theorem sum_set : ∀ (xs : List Int) (i : Nat) (v c : Int), xs[i]? = some c → (xs.set i v).sum = xs.sum - c + v
  | x :: xs, 0, v, c, h => by
    cases h
    rw [List.set_cons_zero, List.sum_cons, List.sum_cons]
    omega
  | x :: xs, i + 1, v, c, h => by
    have := sum_set xs i v c (by simpa using h)
    rw [List.set_cons_succ, List.sum_cons, List.sum_cons]
    omega
theorem small_sum : ∀ (xs : List Int), (∀ c ∈ xs, 0 ≤ c ∧ c ≤ 3) → xs.sum ≤ 3 * xs.length
  | [], _ => by decide
  | x :: xs, h => by
    have h1 := h x (List.mem_cons_self ..)
    have h2 := small_sum xs fun c hc => h c (List.mem_cons_of_mem _ hc)
    rw [List.sum_cons, List.length_cons]
    omega
theorem ixN_nat {n j : Nat} (h : j < n) : ixN n (j : Int) = some j := by
  unfold ixN
  rw [if_pos (by omega), if_pos (by omega)]; simp
/-- a new list of counts -/
def spCounts : Sp := fun vs H Q _ => ∃ (b : Addr) (n : Nat), vs = [.ref b] ∧ BagAt H b n ∧ n < 2 ^ 28 ∧
  ∀ (l : Addr) (H' : Hp) (ns : List Int), H l = none → But b H H' → BagAt H' b (n + 65) → H' l = some (.lst (ns.map V.int)) → (∀ c ∈ ns, 0 ≤ c) → ns.sum ≤ 3000 → ns.length ≤ 58 → Q (.ref l) H'
theorem sc_l_counts : FnScope ["_law_bag_here", "_law_counts_here", "_law_turn", "_law_at", "_law_gap"] ["_law_bag_here"] (defScope s_l_counts) := ⟨rfl, rfl, rfl, by decide +kernel, rfl, by decide +kernel, by decide +kernel⟩
theorem ok_l_counts (T : Txt K mg a) : FnOk P w K mg base CX0 3 a.f_l_counts a.d_l_counts ["_law_bag_here"] spCounts := by
  refine T.F_l_counts.ok sc_l_counts (fun vs H Q E h => ?_) (fun cdv A outer s H vs Q E hr h => ?_)
  · obtain ⟨b, n, rfl, _⟩ := h
    rfl
  · obtain ⟨b, n, rfl, hb, hn, k⟩ := h
    refine ⟨_, (pss_cons (ps_set (i := 1) sc_l_counts.nd rfl (.inl rfl) (pe_lstS pa_nil))
      (pss_cons (ps_for PassesOwn.never rfl (pi_range1 (by rfl) T.b_range (pa_cons (pe_call (ok_l_of T) (hr.mono (by decide)) rfl T.m_l_of T.k_l_of T.a_l_of .nil pass0 (pa_cons (pv 0) (pa_cons (pe_lstS (pa_cons pe_int (pa_cons pe_int (pa_cons pe_int (pa_cons pe_int (pa_cons pe_int (pa_cons pe_int pa_nil))))))) pa_nil))) pa_nil)) (pg_name (i := 2) sc_l_counts.nd rfl (.inl rfl))
      (pss_one (ps_expr (pe_bm PySem.F.plainAttrs_list PySem.F.slot_list_append PySem.F.type_list_append mt_append (pv 1) (pa_cons (pe_call (ok_l_of T) (hr.mono (by decide)) rfl T.m_l_of T.k_l_of T.a_l_of .nil pass0 (pa_cons (pv 0) (pa_cons (pe_lstS (pa_cons pe_int (pa_cons pe_int (pa_cons pe_int (pa_cons pe_int (pa_cons pe_int (pa_cons pe_int pa_nil))))))) pa_nil))) pa_nil)))))
      (pss_cons (ps_if (PW.pt (pw_and (pt_cmpR (op_neIL hr.units) (pv 1) (pe_lstS pa_nil) (nomark _)) (pw_and1 (pt_cmpR op_eq (pe_call (ok_l_draw T) (hr.mono (by decide)) rfl T.m_l_draw T.k_l_draw T.a_l_draw .nil pass0 (pa_cons (pv 0) (pa_cons pe_int pa_nil))) pe_int (nomark _))))) (pss_cons (ps_set (i := 3) sc_l_counts.nd rfl (.inl rfl) (pe_call (ok_l_draw T) (hr.mono (by decide)) rfl T.m_l_draw T.k_l_draw T.a_l_draw .nil pass0 (pa_cons (pv 0) (pa_cons (pe_callB call_len_seq (by rfl) T.b_len PySem.boot_len (pa_cons (pv 1) pa_nil)) pa_nil))))
      (pss_cons (ps_set (i := 4) sc_l_counts.nd rfl (.inl rfl) (pe_op op_mul (pe_call (ok_l_draw T) (hr.mono (by decide)) rfl T.m_l_draw T.k_l_draw T.a_l_draw .nil pass0 (pa_cons (pv 0) (pa_cons pe_int pa_nil))) (pe_call (ok_l_draw T) (hr.mono (by decide)) rfl T.m_l_draw T.k_l_draw T.a_l_draw .nil pass0 (pa_cons (pv 0) (pa_cons pe_int pa_nil)))))
      (pss_one (ps_asg (pe_op op_sub (pe_op op_add (pe_op op_sub pe_int (pe_callB (cr_sum rfl) (by rfl) T.b_sum (by decide +kernel) (pa_cons (pv 1) pa_nil))) (pe_ix ix_list (pv 1) (pv 3) (fun _ _ => rfl))) (pv 4)) (pg_sub (pv 1) (pv 3) set_list))))) pss_nil)
      (pss_one (ps_ret (pv 1)))))), ?_⟩
    refine ⟨(by show 0 ≤ sizeLine; decide), fun D H1 nD s1 hD => ?_⟩
    have nDb : D ≠ b := hb.ne nD
    refine ⟨_, rfl, (by show 6 ≤ sizeLine; decide), fun p H2 np s2 hp => ?_⟩
    have hb2 := (hb.keep s1).keep s2
    refine ⟨b, p, n, _, rfl, hb2, by omega, SqL.of hp, (hb.keep s1).ne np, by simp, by show 6 < _; decide, fun x H3 hx hb3 bt3 => ?_⟩
    obtain ⟨j, rfl, j8⟩ : ∃ j : Nat, x = .int j ∧ j ≤ 58 := by
      simp only [List.mem_cons, List.not_mem_nil, or_false] at hx
      rcases hx with rfl | rfl | rfl | rfl | rfl | rfl
      · exact ⟨0, rfl, by decide⟩
      · exact ⟨1, rfl, by decide⟩
      · exact ⟨2, rfl, by decide⟩
      · exact ⟨5, rfl, by decide⟩
      · exact ⟨9, rfl, by decide⟩
      · exact ⟨58, rfl, by decide⟩
    have bt : But b H H3 := (But.of (s1.trans s2)).trans bt3
    refine ⟨_, rfl, by omega, by omega, for_range (n := j) (fun i σ H' => ∃ (ns : List Int) (v2 : Option V), σ = [some (.ref b), some (.ref D), v2, none, none] ∧ H' D = some (.lst (ns.map V.int)) ∧ ns.length = i ∧ (∀ c ∈ ns, 0 ≤ c ∧ c ≤ 3) ∧ BagAt H' b (n + 1 + i) ∧ But b H H')
      ⟨[], none, rfl, bt3 _ _ (s2 _ _ hD) nDb, rfl, fun c hc => (by cases hc), hb3, bt⟩ ?_ ?_⟩
    · rintro i σ H' hi ⟨ns, v2, rfl, hD', hl, h03, hb', bt'⟩
      refine ⟨_, rfl, .inl ⟨rfl, _, SqL.of hD'⟩, _, rfl, (by show 6 ≤ sizeLine; decide), fun q H4 nq s4 hq => ?_⟩
      refine ⟨b, q, n + 1 + i, _, rfl, hb'.keep s4, by omega, SqL.of hq, hb'.ne nq, by simp, by show 6 < _; decide, fun y H5 hy hb5 bt5 => ?_⟩
      obtain ⟨c, rfl, c0, c3⟩ : ∃ c : Int, y = .int c ∧ 0 ≤ c ∧ c ≤ 3 := by
        simp only [List.mem_cons, List.not_mem_nil, or_false] at hy
        rcases hy with rfl | rfl | rfl | rfl | rfl | rfl
        all_goals exact ⟨_, rfl, by decide, by decide⟩
      have hD5 := bt5 _ _ (s4 _ _ hD') nDb
      refine ⟨D, _, _, rfl, rfl, hD5, (by rw [List.length_map]; exact sz_lt (by omega)), ns ++ [c], _, rfl, ?_, by rw [List.length_append, hl]; rfl, ?_, hb5.upd nDb, ?_⟩
      · rw [upd_same, List.map_append]; rfl
      · intro z hz
        rcases List.mem_append.mp hz with hz | hz
        · exact h03 z hz
        · rw [List.mem_singleton.mp hz]; exact ⟨c0, c3⟩
      · intro q2 o e hq2
        have nq2 : q2 ≠ D := ne_of_none e nD
        rw [upd_ne nq2]
        exact bt5 q2 o (s4 q2 o (bt' q2 o e hq2)) hq2
    · rintro σ H' ⟨ns, v2, rfl, hD', hl, h03, hb', bt'⟩
      have hs := small_sum ns h03
      have h0 : ∀ c ∈ ns, 0 ≤ c := fun c hc => (h03 c hc).1
      refine ⟨_, rfl, (by show 0 ≤ sizeLine; decide), fun q H4 nq s4 hq => ?_⟩
      have hD4 := s4 _ _ hD'
      refine ⟨D, q, ns, [], rfl, rfl, SqL.of hD4, SqL.of hq, _, rfl, ?_⟩
      refine ite2 (fun hne => ?_) (fun _ => ?_)
      · have hpos : 0 < ns.length := by
          rcases Nat.eq_zero_or_pos ns.length with e | e
          · rw [List.length_eq_zero_iff.mp e] at hne
            cases hne
          · exact e
        have hb4 := hb'.keep s4
        refine ⟨_, rfl, b, _, 8, rfl, hb4, by omega, by decide, by decide, fun r H5 r0 r1 hb5 bt5 => ?_⟩
        have hD5 := bt5 _ _ hD4 nDb
        refine ⟨rfl, _, rfl, ?_⟩
        refine ite2 (fun _ => ?_) (fun _ => ?_)
        · refine ⟨_, rfl, _, rfl, D, _, rfl, .inl (SqL.of hD5), b, _, _, rfl, hb5, by omega, (by rw [List.length_map]; omega), (by rw [List.length_map]; omega), fun m H6 m0 m1 hb6 bt6 => ?_⟩
          rw [List.length_map] at m1
          have hD6 := bt6 _ _ hD5 nDb
          refine ⟨_, rfl, b, _, 3, rfl, hb6, by omega, by decide, by decide, fun g1 H7 g10 g11 hb7 bt7 => ?_⟩
          have hD7 := bt7 _ _ hD6 nDb
          refine ⟨_, rfl, b, _, 900, rfl, hb7, by omega, by decide, by decide, fun g2 H8 g20 g21 hb8 bt8 => ?_⟩
          have hD8 := bt8 _ _ hD7 nDb
          refine ⟨_, _, rfl, rfl, .inl ⟨by omega, by omega⟩, ?_⟩
          obtain ⟨m', rfl⟩ : ∃ m' : Nat, m = m' := ⟨m.toNat, by omega⟩
          have hm : m' < ns.length := by omega
          have hg : 0 ≤ g1 * g2 ∧ g1 * g2 ≤ 2 * 899 := ⟨Int.mul_nonneg g10 g20, Int.mul_le_mul (by omega) (by omega) g20 (by decide)⟩
          have hc := h03 ns[m'] (List.getElem_mem hm)
          refine ⟨_, rfl, D, ns, rfl, SqL.of hD8, _, _, rfl, rfl, _, rfl, _, rfl, D, _, _, .int ns[m'], rfl, rfl, SqL.of hD8, atI_nat (by rw [List.getElem?_map, List.getElem?_eq_getElem hm]; rfl), _, _, rfl, rfl, _, rfl, _, _, rfl, rfl, ?_⟩
          refine ⟨_, rfl, _, rfl, D, _, _, m', rfl, rfl, hD8, ixN_nat (by rw [List.length_map]; exact hm), ?_⟩
          generalize hv : (3000 - ns.sum + ns[m'] - g1 * g2 : Int) = v
          have hsum := sum_set ns m' v ns[m'] (List.getElem?_eq_getElem hm)
          have hnn : 0 ≤ ns.sum := sum_nonneg ns h0
          refine ⟨_, rfl, k D _ (ns.set m' v) nD ?_ ?_ ?_ ?_ ?_ ?_⟩
          · intro q2 o e hq2
            rw [upd_ne (ne_of_none e nD)]
            exact bt8 q2 o (bt7 q2 o (bt6 q2 o (bt5 q2 o (s4 q2 o (bt' q2 o e hq2)) hq2) hq2) hq2) hq2
          · exact (hb8.upd nDb).mono (by omega)
          · subst hv
            rw [upd_same, List.map_set]
          · intro c hc2
            rcases List.mem_or_eq_of_mem_set hc2 with h | h
            · exact h0 c h
            · omega
          · omega
          · rw [List.length_set]; omega
        · exact ⟨_, rfl, k D H5 ns nD (bt'.trans ((But.of s4).trans bt5)) (hb5.mono (by omega)) hD5 h0 (by omega) (by omega)⟩
      · exact ⟨_, rfl, k D H4 ns nD (bt'.trans (But.of s4)) ((hb'.keep s4).mono (by omega)) hD4 h0 (by omega) (by omega)⟩

/-- the law's own list of places -/
def spRows (K : PySem.W.Frag) : Sp := fun vs H Q _ => ∃ (l : Addr) (ns : List Int), vs = [.ref l] ∧ SqL K H l (ns.map V.int) ∧ (∀ c ∈ ns, 0 ≤ c) ∧ ns.sum ≤ 50000 ∧ ns.length ≤ 1000 ∧
  ∀ p H', H p = none → Same H H' → H' p = some (.lst ((rowsF 0 ns).map V.int)) → Q (.ref p) H'
theorem sc_l_rows : FnScope ["_law_counts_here", "_law_found", "_law_at"] ["_law_counts_here"] (defScope s_l_rows) := ⟨rfl, rfl, rfl, by decide +kernel, rfl, by decide +kernel, by decide +kernel⟩
theorem ok_l_rows (T : Txt K mg a) : FnOk P w K mg base CX0 1 a.f_l_rows a.d_l_rows ["_law_counts_here"] (spRows K) := by
  refine T.F_l_rows.ok sc_l_rows (fun vs H Q E h => ?_) (fun cdv A outer s H vs Q E hr h => ?_)
  · obtain ⟨l, ns, rfl, _⟩ := h
    rfl
  · obtain ⟨l, ns, rfl, hl, h0, hs, hlen, k⟩ := h
    refine ⟨_, (pss_cons (ps_set (i := 1) sc_l_rows.nd rfl (.inl rfl) (pe_lstS pa_nil))
      (pss_cons (ps_for PassesOwn.never rfl (pi_range1 (by rfl) T.b_range (pa_cons (pe_callB call_len_seq (by rfl) T.b_len PySem.boot_len (pa_cons (pv 0) pa_nil)) pa_nil)) (pg_name (i := 2) sc_l_rows.nd rfl (.inl rfl))
      (pss_one (ps_set (i := 1) sc_l_rows.nd rfl (.inl rfl) (pe_op op_catS (pv 1) (pe_op op_repS (pe_lstS (pa_cons (pv 2) pa_nil)) (pe_ix ix_list (pv 0) (pv 2) (fun _ _ => rfl)))))))
      (pss_one (ps_ret (pv 1))))), ?_⟩
    refine ⟨(by show 0 ≤ sizeLine; decide), fun D H1 nD s1 hD => ?_⟩
    refine ⟨_, rfl, l, _, rfl, .inl (s1.seq hl), _, rfl, by omega, (by rw [List.length_map]; omega), for_range (fun i σ H' => ∃ (D : Addr) (v2 : Option V), σ = [some (.ref l), some (.ref D), v2] ∧ H D = none ∧ H' D = some (.lst ((rowsF 0 (ns.take i)).map V.int)) ∧ Same H H')
      ⟨D, _, rfl, nD, hD, s1⟩ ?_ ?_⟩
    · rintro i σ H2 hi0 ⟨D2, v2, rfl, nD2, hD2, z⟩
      have hi : i < ns.length := by rw [List.length_map] at hi0; omega
      have hc := List.getElem?_eq_getElem hi
      have hc0 : 0 ≤ ns[i] := h0 _ (List.getElem_mem hi)
      have hcs : ns[i] ≤ ns.sum := le_sum ns _ h0 (List.getElem_mem hi)
      generalize ns[i] = c at hc hc0 hcs
      refine ⟨_, rfl, _, rfl, (by show 1 ≤ sizeLine; decide), fun q H4 nq s4 hq => ?_⟩
      refine ⟨_, rfl, _, rfl, l, _, _, .int c, rfl, rfl, (z.trans s4).seq hl, (by rw [Int.zero_add]; exact atI_nat (by rw [List.getElem?_map, hc]; rfl)), ?_⟩
      refine ⟨q, _, _, rfl, rfl, hq, by omega, by omega, ?_, fun r H5 nr s5 hr5 => ?_⟩
      · show 1 * c.toNat ≤ sizeLine
        exact sz_of (by omega)
      · have e3 : (List.replicate c.toNat [V.int (0 + (i : Nat))]).flatten = (List.replicate c.toNat (i : Int)).map V.int := by rw [flat1, List.map_replicate, Int.zero_add]
        rw [e3] at hr5
        have hln : (((rowsF 0 (ns.take i)).length : Nat) : Int) ≤ ns.sum := by
          rw [rowsF_len 0 _ (mem_nonneg_take h0)]
          exact take_sum_le ns i h0
        refine ⟨D2, r, _, _, rfl, rfl, s5 _ _ (s4 _ _ hD2), hr5, ?_, fun t H6 nt s6 ht => ?_⟩
        · rw [List.length_map, List.length_map, List.length_replicate]
          exact sz_of (by omega)
        · refine ⟨t, _, rfl, z.free (s4.free (s5.free nt)), ?_, ((z.trans s4).trans s5).trans s6⟩
          rw [ht, rowsF_take hc, List.map_append]
    · rintro σ H2 ⟨D2, v2, rfl, nD2, hD2, z⟩
      rw [List.length_map, Int.toNat_natCast, List.take_length] at hD2
      exact ⟨_, rfl, k D2 H2 nD2 z hD2⟩

end
end Toy

set_option Elab.async false
set_option linter.all false
set_option maxRecDepth 100000
set_option maxHeartbeats 4000000
namespace Toy
open PySem L2 Lf
section
variable {P : Program} {w : World} {K : PySem.W.Frag} {mg : Str → Option Value} {base : Heap} {a : Ad}

theorem rowsF_zeros (ns : List Int) : rowsF 0 (ns ++ [0, 0]) = rowsF 0 ns := by
  have e : ns ++ [0, 0] = (ns ++ [0]) ++ [0] := by simp
  rw [e, rowsF_snoc, rowsF_snoc]
  simp
theorem any_rep (n : Nat) : ((List.replicate n false).any id) = false := by
  induction n with
  | zero => rfl
  | succ n ih => rw [List.replicate_succ, List.any_cons, ih]; rfl
theorem rep_snoc {α : Type} (n : Nat) (x : α) : List.replicate n x ++ [x] = List.replicate (n + 1) x := (List.replicate_succ' ..).symm
def spRight : Sp := fun vs H Q _ => ∃ (b : Addr) (n : Nat), vs = [.ref b] ∧ BagAt H b n ∧ n < 2 ^ 27 ∧ ∀ (H' : Hp), BagAt H' b (n + 67) → But b H H' → Q (.bl true) H'
theorem sc_l_right : FnScope ["_law_bag_here", "_law_counts_here", "_law_rows_here", "_law_given", "_law_told", "_law_other", "_law_kept", "_law_one", "_law_at", "_law_low", "_law_high"] ["_law_bag_here"] (defScope s_l_right) := ⟨rfl, rfl, rfl, by decide +kernel, rfl, by decide +kernel, by decide +kernel⟩
theorem ok_l_right (T : Txt K mg a) : FnOk P w K mg base CX0 4 a.f_l_right a.d_l_right ["_law_bag_here"] spRight := by
  refine T.F_l_right.ok sc_l_right (fun vs H Q E h => ?_) (fun cdv A outer s H vs Q E hr h => ?_)
  · obtain ⟨b, n, rfl, _⟩ := h
    rfl
  · obtain ⟨b, n, rfl, hb, hn, k⟩ := h
    obtain ⟨ds_Answer__init, vd_Answer__init, bd_Answer__init⟩ := T.a_Answer__init
    refine ⟨_, (pss_cons (ps_set (i := 1) sc_l_right.nd rfl (.inl rfl) (pe_call (ok_l_counts T) (hr.mono (by decide)) rfl T.m_l_counts T.k_l_counts T.a_l_counts .nil pass0 (pa_cons (pv 0) pa_nil)))
      (pss_cons (ps_par (i := 2) (j := 3) (by rfl) sc_l_right.nd rfl rfl (by decide) rfl rfl (pa_cons (pe_call (ok_l_rows T) (hr.mono (by decide)) rfl T.m_l_rows T.k_l_rows T.a_l_rows .nil pass0 (pa_cons (pv 1) pa_nil)) (pa_cons (pe_callTy call_list_ofS (by rfl) T.b_list (by decide +kernel) (pa_cons (pv 1) pa_nil)) pa_nil)) (by rfl))
      (pss_cons (ps_asg (pe_tupS (pa_cons (pe_make T.mk_Answer (ok_Answer__init T) (hr.mono (by decide)) rfl T.m_Answer bd_Answer__init vd_Answer__init pass0 (pa_cons (pv 3) pa_nil)) (pa_cons (pe_make T.mk_Answer (ok_Answer__init T) (hr.mono (by decide)) rfl T.m_Answer bd_Answer__init vd_Answer__init pass0 (pa_cons (pe_op op_catS (pv 1) (pe_lstS (pa_cons pe_int (pa_cons pe_int pa_nil)))) pa_nil)) pa_nil))) (pg_tup rfl (pgs_cons (pg_name (i := 4) sc_l_right.nd rfl (.inr rfl)) (pgs_cons (pg_name (i := 5) sc_l_right.nd rfl (.inl rfl)) pgs_nil))))
      (pss_cons (ps_set (i := 6) sc_l_right.nd rfl (.inl rfl) (pe_cmpR (op_eqIL hr.units) (pv 3) (pv 1) (nomark _)))
      (pss_cons (ps_expr (pe_bm PySem.F.plainAttrs_list PySem.F.slot_list_append PySem.F.type_list_append mt_append (pv 3) (pa_cons pe_int pa_nil)))
      (pss_cons (ps_if (PW.pt (pw_or (pt_not (pt_val (pv 6))) (pw_or (pt_not (pt_val (pe_callB call_isi (by rfl) T.b_isinstance (by decide +kernel) (pa_cons (pe_fld (pv 4) rfl) (pa_cons (pe_bltn (v := .ty "tuple") (by rfl) T.b_tuple (by decide +kernel) rfl) pa_nil))))) (pw_or (pt_cmpR (op_neIL hr.units) (pe_callTy call_list_ofS (by rfl) T.b_list (by decide +kernel) (pa_cons (pe_fld (pv 4) rfl) pa_nil)) (pv 2) (nomark _)) (pw_or1 (pt_cmpR op_ne (pe_callB (call_lenOwn (C := a.C_Answer) T.f_Answer__len T.i_Answer__len ((ok_Answer__len T).raw T.a_Answer__len .nil) (hr.mono (by decide)) pass0) (by rfl) T.b_len PySem.boot_len (pa_cons (pv 4) pa_nil)) (pe_callB call_len_seq (by rfl) T.b_len PySem.boot_len (pa_cons (pv 2) pa_nil)) (nomark _))))))) (pss_one (ps_ret pe_bl)) pss_nil)
      (pss_cons (ps_if (PW.pt (pw_or (pt_val (pe_callB (cr_any rfl) (by rfl) T.b_any (by decide +kernel) (pa_cons (pe_lc (own := [("_law_one", 7)]) (g := gName 7) (tt := tYes) (te := (tOrV (tCB (rIsi K) (tCons (tVar 7) (tCons (tC (.ty "bool")) tNil))) (tNotV (tCB (rIsi K) (tCons (tVar 7) (tCons (tC (.ty "int")) tNil)))))) rfl sc_l_right.nd (pi_tup (pe_fld (pv 4) rfl)) (blkOk_by (own := [("_law_one", 7)]) (N := ["_law_bag_here", "_law_counts_here", "_law_rows_here", "_law_given", "_law_told", "_law_other", "_law_kept", "_law_one", "_law_at", "_law_low", "_law_high"]) (sc := defScope s_l_right) (by decide +kernel)) (fun _ _ _ _ _ => (pg_name (i := 7) sc_l_right.nd rfl (.inl rfl))) (fun _ _ _ _ _ => pts_nil) (fun _ _ _ _ _ => (pe_or (pe_callB call_isi (by rfl) T.b_isinstance (by decide +kernel) (pa_cons (pv 7) (pa_cons (pe_bltn (v := .ty "bool") (by rfl) T.b_bool (by decide +kernel) rfl) pa_nil))) (pe_one (pe_not (pe_callB call_isi (by rfl) T.b_isinstance (by decide +kernel) (pa_cons (pv 7) (pa_cons (pe_bltn (v := .ty "int") (by rfl) T.b_int (by decide +kernel) rfl) pa_nil)))))))) pa_nil))) (pw_or1 (pt_cmpR (op_ownNe (C := a.C_Answer) T.o_Answer T.ne_Answer T.f_Answer__eq T.i_Answer__eq ((ok_Answer__eq T).raw T.a_Answer__eq .nil) (hr.mono (by decide)) pass0) (pv 4) (pv 5) (nomark _))))) (pss_one (ps_ret pe_bl)) pss_nil)
      (pss_cons (ps_if (PW.pt (pw_or (pt_cmpR (op_ownEq (C := a.C_Answer) T.f_Answer__eq T.i_Answer__eq ((ok_Answer__eq T).raw T.a_Answer__eq .nil) (hr.mono (by decide)) pass0) (pv 4) (pv 2) (nomark _)) (pw_or (pt_cmpR (op_ownEq (C := a.C_Answer) T.f_Answer__eq T.i_Answer__eq ((ok_Answer__eq T).raw T.a_Answer__eq .nil) (hr.mono (by decide)) pass0) (pv 4) (pe_callTy call_tupleD (by rfl) T.b_tuple (by decide +kernel) (pa_cons (pv 2) pa_nil)) (nomark _)) (pw_or1 (pt_cmpR (op_ownEq (C := a.C_Answer) T.f_Answer__eq T.i_Answer__eq ((ok_Answer__eq T).raw T.a_Answer__eq .nil) (hr.mono (by decide)) pass0) (pv 4) (pv 1) (nomark _)))))) (pss_one (ps_ret pe_bl)) pss_nil)
      (pss_cons (ps_if (PW.pt (pw_and (pt_cmpR (op_neIL hr.units) (pv 1) (pe_lstS pa_nil) (nomark _)) (pw_and (pt_cmpR op_lt (pe_callB call_len_seq (by rfl) T.b_len PySem.boot_len (pa_cons (pv 2) pa_nil)) pe_int (nomark _)) (pw_and1 (pt_cmpR (op_ownEq (C := a.C_Answer) T.f_Answer__eq T.i_Answer__eq ((ok_Answer__eq T).raw T.a_Answer__eq .nil) (hr.mono (by decide)) pass0) (pv 4) (pe_make T.mk_Answer (ok_Answer__init T) (hr.mono (by decide)) rfl T.m_Answer bd_Answer__init vd_Answer__init pass0 (pa_cons (pe_op op_catS (pe_lstS (pa_cons (pe_op op_add (pe_ix ix_list (pv 1) pe_int (fun _ _ => rfl)) pe_int) pa_nil)) (pe_slice sl_listS (pv 1) (po_some pe_int) po_none)) pa_nil)) (nomark _)))))) (pss_one (ps_ret pe_bl)) pss_nil)
      (pss_cons (ps_for PassesOwn.never rfl (pi_range1 (by rfl) T.b_range (pa_cons (pe_callB (call_min2 rfl) (by rfl) T.b_min (by decide +kernel) (pa_cons (pe_callB call_len_seq (by rfl) T.b_len PySem.boot_len (pa_cons (pv 2) pa_nil)) (pa_cons pe_int pa_nil))) pa_nil)) (pg_name (i := 8) sc_l_right.nd rfl (.inl rfl))
      (pss_one (ps_if (PW.pt (pw_or (pt_cmpR op_ne (pe_ixOwn (C := a.C_Answer) T.f_Answer__getitem T.fi_Answer__getitem T.i_Answer__getitem ((ok_Answer__getitem T).raw T.a_Answer__getitem .nil) (hr.mono (by decide)) pass0 (pv 4) (pv 8) (fun _ _ => by with_unfolding_all rfl)) (pe_ix ix_list (pv 2) (pv 8) (fun _ _ => rfl)) (nomark _)) (pw_or1 (pt_cmpR op_ne (pe_ixOwn (C := a.C_Answer) T.f_Answer__getitem T.fi_Answer__getitem T.i_Answer__getitem ((ok_Answer__getitem T).raw T.a_Answer__getitem .nil) (hr.mono (by decide)) pass0 (pv 4) (pe_op op_sub (pe_un un_neg pe_int) (pv 8)) (fun _ _ => by with_unfolding_all rfl)) (pe_ix ix_list (pv 2) (pe_op op_sub (pe_un un_neg pe_int) (pv 8)) (fun _ _ => rfl)) (nomark _))))) (pss_one (ps_ret pe_bl)) pss_nil)))
      (pss_cons (ps_par (i := 9) (j := 10) (by rfl) sc_l_right.nd rfl rfl (by decide) rfl rfl (pa_cons (pe_op op_sub (pe_call (ok_l_draw T) (hr.mono (by decide)) rfl T.m_l_draw T.k_l_draw T.a_l_draw .nil pass0 (pa_cons (pv 0) (pa_cons pe_int pa_nil))) pe_int) (pa_cons (pe_op op_sub (pe_call (ok_l_draw T) (hr.mono (by decide)) rfl T.m_l_draw T.k_l_draw T.a_l_draw .nil pass0 (pa_cons (pv 0) (pa_cons pe_int pa_nil))) pe_int) pa_nil)) (by rfl))
      (pss_cons (ps_if (PW.pt (pw_or (pt_not (pt_val (pe_callB call_isi (by rfl) T.b_isinstance (by decide +kernel) (pa_cons (pe_sliceOwn (C := a.C_Answer) T.nq_Answer T.f_Answer__getitem T.fi_Answer__getitem T.i_Answer__getitem ((ok_Answer__getitem T).raw T.a_Answer__getitem .nil) (hr.mono (by decide)) pass0 (pv 4) (po_some (pv 9)) (po_some (pv 10))) (pa_cons (pe_bltn (v := .ty "tuple") (by rfl) T.b_tuple (by decide +kernel) rfl) pa_nil))))) (pw_or1 (pt_cmpR (op_neIL hr.units) (pe_callTy call_list_ofS (by rfl) T.b_list (by decide +kernel) (pa_cons (pe_sliceOwn (C := a.C_Answer) T.nq_Answer T.f_Answer__getitem T.fi_Answer__getitem T.i_Answer__getitem ((ok_Answer__getitem T).raw T.a_Answer__getitem .nil) (hr.mono (by decide)) pass0 (pv 4) (po_some (pv 9)) (po_some (pv 10))) pa_nil)) (pe_slice sl_listS (pv 2) (po_some (pv 9)) (po_some (pv 10))) (nomark _))))) (pss_one (ps_ret pe_bl)) pss_nil)
      (pss_cons (ps_if (PW.pt (pw_or (pt_cmpR (op_neIL hr.units) (pe_callTy call_list_ofS (by rfl) T.b_list (by decide +kernel) (pa_cons (pe_sliceOwn (C := a.C_Answer) T.nq_Answer T.f_Answer__getitem T.fi_Answer__getitem T.i_Answer__getitem ((ok_Answer__getitem T).raw T.a_Answer__getitem .nil) (hr.mono (by decide)) pass0 (pv 4) (po_some (pv 10)) po_none) pa_nil)) (pe_slice sl_listS (pv 2) (po_some (pv 10)) po_none) (nomark _)) (pw_or (pt_cmpR (op_neIL hr.units) (pe_callTy call_list_ofS (by rfl) T.b_list (by decide +kernel) (pa_cons (pe_sliceOwn (C := a.C_Answer) T.nq_Answer T.f_Answer__getitem T.fi_Answer__getitem T.i_Answer__getitem ((ok_Answer__getitem T).raw T.a_Answer__getitem .nil) (hr.mono (by decide)) pass0 (pv 4) po_none (po_some (pv 9))) pa_nil)) (pe_slice sl_listS (pv 2) po_none (po_some (pv 9))) (nomark _)) (pw_or1 (pt_cmpR (op_neIL hr.units) (pe_callTy call_list_ofS (by rfl) T.b_list (by decide +kernel) (pa_cons (pe_sliceOwn (C := a.C_Answer) T.nq_Answer T.f_Answer__getitem T.fi_Answer__getitem T.i_Answer__getitem ((ok_Answer__getitem T).raw T.a_Answer__getitem .nil) (hr.mono (by decide)) pass0 (pv 4) po_none po_none) pa_nil)) (pv 2) (nomark _)))))) (pss_one (ps_ret pe_bl)) pss_nil)
      (pss_cons (ps_for PassesOwn.never rfl (pi_list (pe_op op_catS (pe_lstS (pa_cons (pe_un un_neg pe_int) (pa_cons (pe_un un_neg pe_int) (pa_cons (pe_callB call_len_seq (by rfl) T.b_len PySem.boot_len (pa_cons (pv 1) pa_nil)) (pa_cons (pe_op op_pow pe_int pe_int) pa_nil))))) (pe_listRg rfl (by rfl) T.b_list (prg_1 (by rfl) T.b_range (pe_callB (call_min2 rfl) (by rfl) T.b_min (by decide +kernel) (pa_cons (pe_callB call_len_seq (by rfl) T.b_len PySem.boot_len (pa_cons (pv 1) pa_nil)) (pa_cons pe_int pa_nil))))))) (pg_name (i := 8) sc_l_right.nd rfl (.inl rfl))
      (pss_one (ps_if (PW.pt (pw_or (pt_cmpR op_ne (pe_meth (pv 4) T.c_Answer T.t_Answer_times (ok_Answer_times T) (hr.mono (by decide)) T.a_Answer_times .nil pass0 (pa_cons (pv 8) pa_nil)) (pe_bm PySem.F.plainAttrs_list PySem.F.slot_list_count PySem.F.type_list_count mt_lcount (pv 2) (pa_cons (pv 8) pa_nil)) (nomark _)) (pw_or (pt_cmpR op_ne (pe_cmpR (op_inOwn (C := a.C_Answer) T.f_Answer__contains T.i_Answer__contains ((ok_Answer__contains T).raw T.a_Answer__contains .nil) (hr.mono (by decide)) pass0) (pv 8) (pv 4) rfl) (pe_cmpR op_in_seq (pv 8) (pv 2) rfl) (nomark _)) (pw_or1 (pt_not (pt_val (pe_callB call_isi (by rfl) T.b_isinstance (by decide +kernel) (pa_cons (pe_meth (pv 4) T.c_Answer T.t_Answer_times (ok_Answer_times T) (hr.mono (by decide)) T.a_Answer_times .nil pass0 (pa_cons (pv 8) pa_nil)) (pa_cons (pe_bltn (v := .ty "int") (by rfl) T.b_int (by decide +kernel) rfl) pa_nil))))))))) (pss_one (ps_ret pe_bl)) pss_nil)))
      (pss_one (ps_ret (pe_not (pe_callB (cr_any rfl) (by rfl) T.b_any (by decide +kernel) (pa_cons (pe_lc (own := [("_law_one", 7)]) (g := gName 7) (tt := tYes) (te := (tOp (rInOwn a.C_Answer (rawS (spAHas K a)) E0 false) (tVar 7) (tVar 4))) rfl sc_l_right.nd (pi_tup (pe_tupS (pa_cons pe_bl (pa_cons pe_bl (pa_cons pe_non (pa_cons pe_str (pa_cons (pe_tupS (pa_cons pe_int pa_nil)) (pa_cons (pe_lstS (pa_cons pe_int pa_nil)) pa_nil)))))))) (blkOk_by (own := [("_law_one", 7)]) (N := ["_law_bag_here", "_law_counts_here", "_law_rows_here", "_law_given", "_law_told", "_law_other", "_law_kept", "_law_one", "_law_at", "_law_low", "_law_high"]) (sc := defScope s_l_right) (by decide +kernel)) (fun _ _ _ _ _ => (pg_name (i := 7) sc_l_right.nd rfl (.inl rfl))) (fun _ _ _ _ _ => pts_nil) (fun _ _ _ _ _ => (pe_cmpR (op_inOwn (C := a.C_Answer) T.f_Answer__contains T.i_Answer__contains ((ok_Answer__contains T).raw T.a_Answer__contains .nil) (hr.mono (by decide)) pass0) (pv 7) (pv 4) rfl))) pa_nil))))))))))))))))))), ?_⟩
    refine ⟨_, rfl, b, n, rfl, hb, by omega, fun lc H1 ns nlc bt1 hb1 hc1 c0 cs cl => ?_⟩
    -- rows, given
    refine ⟨_, rfl, lc, ns, rfl, SqL.of hc1, c0, by omega, by omega, fun lr H2 nlr s2 hr2 => ?_⟩
    have hc2 := s2 _ _ hc1
    refine ⟨_, rfl, lc, _, rfl, .inl (SqL.of hc2), fun lg H3 nlg s3 hg3 => ?_⟩
    have hc3 := s3 _ _ hc2
    have hr3 := s3 _ _ hr2
    refine ⟨_, _, rfl, ?_⟩
    have hlenR : ((rowsF 0 ns).length : Int) = ns.sum := rowsF_len 0 ns c0
    -- told, other
    refine ⟨_, rfl, fun x dx nx nd _ => ⟨x, dx, lg, ns, 3000, rfl, upd_same, (Same.make nx nd).seq (SqL.of hg3), c0, cs, by omega, fun pt H4 bt4 hx4 hp4 => ⟨rfl, ?_⟩⟩⟩
    have s4 := made_same nx nd bt4
    have A4 : AnsAt a H4 x (rowsF 0 ns) := ⟨dx, pt, hx4, hp4⟩
    refine ⟨_, rfl, (by show 2 ≤ sizeLine; decide), fun q5 H5 nq5 s5 hq5 => ?_⟩
    refine ⟨lc, q5, _, _, rfl, rfl, s5 _ _ (s4 _ _ hc3), hq5, (by rw [List.length_map]; exact sz_of (by show ns.length + 2 ≤ _; omega)), fun q6 H6 nq6 s6 hq6 => ?_⟩
    have e6 : ns.map V.int ++ [V.int 0, V.int 0] = (ns ++ [0, 0]).map V.int := by rw [List.map_append]; rfl
    rw [e6] at hq6
    have sum6 : (ns ++ [0, 0]).sum = ns.sum := by rw [List.sum_append]; simp
    refine fun y dy ny ndy _ => ⟨y, dy, q6, ns ++ [0, 0], 3000, rfl, upd_same, (Same.make ny ndy).seq (SqL.of hq6), ?_, by omega, by omega, fun pu H7 bt7 hy7 hp7 => ⟨rfl, ?_⟩⟩
    · intro c hc
      rcases List.mem_append.mp hc with h | h
      · exact c0 c h
      · simp only [List.mem_cons, List.not_mem_nil, or_false, or_self] at h
        omega
    have s7 := made_same ny ndy bt7
    rw [rowsF_zeros] at hp7
    have B7 : AnsAt a H7 y (rowsF 0 ns) := ⟨dy, pu, hy7, hp7⟩
    have s37 : Same H3 H7 := ((s4.trans s5).trans s6).trans s7
    have A7 : AnsAt a H7 x (rowsF 0 ns) := A4.keep ((s5.trans s6).trans s7)
    have hc7 := s37 _ _ hc3
    have hr7 := s37 _ _ hr3
    have hg7 := s37 _ _ hg3
    refine ⟨(by show 2 ≤ sizeLine; decide), fun tp Ht ntp st htp => ?_⟩
    refine ⟨tp, _, rfl, SqT.of htp, rfl, _, _, rfl, _, _, rfl, rfl, ?_⟩
    replace hc7 := st _ _ hc7
    replace hr7 := st _ _ hr7
    replace hg7 := st _ _ hg7
    replace A7 := A7.keep st
    replace B7 := B7.keep st
    replace s37 := s37.trans st
    clear htp ntp
    generalize hrs : rowsF 0 ns = rs at *
    -- kept
    refine ⟨_, rfl, _, rfl, lg, lc, ns, ns, rfl, rfl, SqL.of hg7, SqL.of hc7, ?_⟩
    -- given.append(1)
    refine ⟨_, rfl, .inl ⟨rfl, _, SqL.of hg7⟩, lg, _, _, rfl, rfl, hg7, (by rw [List.length_map]; exact sz_lt (by omega)), ?_⟩
    obtain ⟨H8, e8⟩ : ∃ H8, H8 = upd Ht lg (.lst (ns.map V.int ++ [V.int 1])) := ⟨_, rfl⟩
    rw [← e8]
    have b8 : But lg Ht H8 := by rw [e8]; exact But.upd
    have ncg : lc ≠ lg := (ne_of_none hc2 nlg)
    have nrg : lr ≠ lg := (ne_of_none hr2 nlg)
    have A8 := A7.but b8 ⟨_, hg7⟩
    have B8 := B7.but b8 ⟨_, hg7⟩
    have hc8 := b8 _ _ hc7 ncg
    have hr8 := b8 _ _ hr7 nrg
    have nbg : b ≠ lg := fun e => by
      obtain ⟨xs, z⟩ := (hb1.keep s2).lst
      exact ne_of_none z nlg e
    have hb8 : BagAt H8 b (n + 65) := by
      obtain ⟨d, m, c, z1, z2⟩ := (hb1.keep (s2.trans (s3.trans s37)))
      exact ⟨d, m, c, b8 _ _ z1 nbg, z2⟩
    have bt08 : But b H H8 := fun q o e hq => by
      have z := s37 _ _ (s3 _ _ (s2 _ _ (bt1 q o e hq)))
      exact b8 q o z (ne_of_none (s2 _ _ (bt1 q o e hq)) nlg)
    clear e8 b8 bt7 bt4 hx4 hp4 A4 hy7 hp7 B7 A7
    -- first test
    obtain ⟨dx8, p8, hx8, hp8⟩ := id A8
    refine ⟨_, rfl, _, rfl, iteNS rfl ?_⟩
    refine ⟨_, rfl, x, a.C_Answer, dx8, _, _, rfl, hx8, T.c_Answer, T.n_Answer_rows, lk_Answer_rows _, _, _, _, _, true, rfl, .ty _, hp8.ty, kit_ty (by decide +kernel), _, rfl, iteF ?_⟩
    refine ⟨_, rfl, x, a.C_Answer, dx8, _, _, rfl, hx8, T.c_Answer, T.n_Answer_rows, lk_Answer_rows _, p8, _, rfl, .inr hp8.seq, fun q9 H9 nq9 s9 hq9 => ?_⟩
    refine ⟨_, rfl, q9, lr, rs, rs, rfl, rfl, SqL.of hq9, SqL.of (s9 _ _ hr8), _, rfl, iteNS rfl ?_⟩
    refine ⟨_, rfl, x, dx8, _, rfl, s9 _ _ hx8, x, rs, rfl, A8.keep s9, _, rfl, by omega, by omega, _, rfl, lr, _, rfl, .inl (SqL.of (s9 _ _ hr8)), rfl, _, rfl, iteNS (by rw [List.length_map]) ?_⟩
    -- second test
    refine ⟨_, rfl, x, a.C_Answer, dx8, _, _, rfl, s9 _ _ hx8, T.c_Answer, T.n_Answer_rows, lk_Answer_rows _, p8, rfl, ⟨_, (hp8.keep s9).seq⟩, fun D nD => ?_⟩
    refine lc_tup (K := K) (a := p8) (xs := rs.map V.int) (fun i H' => H' D = some (.lst ((List.replicate i false).map V.bl)) ∧ Same H9 H')
      ⟨upd_same, Same.new nD⟩ (fun i H' _ ⟨_, z⟩ => (hp8.keep (s9.trans z)).seq) ?_ ?_
    · rintro i v H' hv ⟨hD', z⟩
      obtain ⟨c, hc, rfl⟩ : ∃ c, rs[i]? = some c ∧ V.int c = v := by
        rw [List.getElem?_map] at hv
        exact Option.map_eq_some_iff.mp hv
      refine ⟨rfl, _, rfl, _, _, _, _, false, rfl, .ty _, .base (.int c), kit_ty (by decide +kernel), _, rfl, iteF ?_⟩
      refine ⟨_, rfl, _, _, _, _, true, rfl, .ty _, .base (.int c), kit_ty (by decide +kernel), _, rfl, _, hD', ?_, ?_, ?_⟩
      · rw [List.length_map, List.length_replicate]
        have : i < rs.length := (List.getElem?_eq_some_iff.mp hc).1
        exact sz_lt (by omega)
      · rw [upd_same, ← rep_snoc, List.map_append]
        rfl
      · exact fun q o e => by rw [upd_ne (ne_of_none e nD)]; exact z q o e
    rintro H10 ⟨hD10, s10⟩
    rw [List.length_map] at hD10
    refine ⟨D, _, rfl, SqL.of hD10, _, rfl, ?_⟩
    rw [any_rep]
    refine iteF ?_
    have s80 := s9.trans s10
    obtain ⟨dy8, p8b, hy8, hpb8⟩ := id B8
    refine ⟨_, rfl, _, rfl, x, dx8, _, _, rfl, s80 _ _ hx8, T.ct_Answer.ty (s80 _ _ hy8), nf_own, x, rs, _, rfl, A8.keep s80, .inl ⟨y, rs, rfl, B8.keep s80, _, rfl, _, rfl, iteNS rfl ?_⟩⟩
    -- third test
    refine ⟨_, rfl, _, rfl, x, dx8, _, _, rfl, s80 _ _ hx8, .base (.lst (s80 _ _ hr8)), nf_ty mro_list, x, rs, _, rfl, A8.keep s80, .inr ⟨_, .base (.lst (s80 _ _ hr8)), mro_list, _, rfl, iteF ?_⟩⟩
    refine ⟨_, rfl, _, rfl, lr, _, rfl, SqL.of (s80 _ _ hr8), fun t11 H11 nt s11 ht11 => ?_⟩
    have s81 := s80.trans s11
    refine ⟨x, dx8, _, _, rfl, s81 _ _ hx8, ht11.ty, nf_ty mro_tuple, x, rs, _, rfl, A8.keep s81, .inr ⟨_, ht11.ty, mro_tuple, _, rfl, iteF ?_⟩⟩
    refine ⟨_, rfl, _, rfl, x, dx8, _, _, rfl, s81 _ _ hx8, .base (.lst (s81 _ _ hc8)), nf_ty mro_list, x, rs, _, rfl, A8.keep s81, .inr ⟨_, .base (.lst (s81 _ _ hc8)), mro_list, _, rfl, iteF ?_⟩⟩
    clear hp8 hpb8 hy8
    have A11 := A8.keep s81
    have B11 := B8.keep s81
    have hc11 := s81 _ _ hc8
    have hr11 := s81 _ _ hr8
    have hb11 := hb8.keep s81
    have bt11 : But b H H11 := bt08.trans (But.of s81)
    -- fourth test
    have cut : ∀ Q : Bool → Hp → Prop, (∀ H', Same H11 H' → Q false H') → (tAnd (tTest (tOp (rNeIL K) (tVar 1) (tLstS tNil))) (tAnd (tTest (tOp rLtI (tCB (rLenSq K) (tCons (tVar 2) tNil)) (tC (.int 3000)))) (tTest (tOp (rOwnEq K a.C_Answer (rawS (spAEq K a)) E0) (tVar 4) (tMake a.C_Answer (spAInit K a) [.int 3000] E0 (tCons (tOp rCatS (tLstS (tCons (tOp rAddI (tOp (rIxL K) (tVar 1) (tC (.int 0))) (tC (.int 1))) tNil)) (tSl (rSlLS K) (tVar 1) (tPart (tC (.int 1))) tNoPart)) tNil)))))) [some (.ref b), some (.ref lc), some (.ref lr), some (.ref lg), some (.ref x), some (.ref y), some (.bl (decide (ns = ns))), none, none, none, none] H11 Q := by
      intro Q hQ
      refine ⟨_, rfl, (by show 0 ≤ sizeLine; decide), fun q H12 nq s12 hq => ?_⟩
      have hc12 := s12 _ _ hc11
      have hr12 := s12 _ _ hr11
      refine ⟨lc, q, ns, [], rfl, rfl, SqL.of hc12, SqL.of hq, _, rfl, ?_⟩
      refine ite2 (fun hne => ?_) (fun _ => hQ _ s12)
      refine ⟨_, rfl, lr, _, rfl, .inl (SqL.of hr12), _, _, rfl, rfl, _, rfl, ?_⟩
      refine ite2 (fun hl => ?_) (fun _ => hQ _ s12)
      have hl' : (rs.length : Int) < 3000 := by
        have := of_decide_eq_true hl
        rw [List.length_map] at this
        exact this
      obtain ⟨c, ns', rfl⟩ : ∃ c ns', ns = c :: ns' := by
        cases ns with
        | nil => cases hne
        | cons c ns' => exact ⟨c, ns', rfl⟩
      have cc := c0 c (List.mem_cons_self ..)
      refine ⟨_, rfl, _, rfl, lc, _, _, .int c, rfl, rfl, SqL.of hc12, atI_nat (j := 0) rfl, _, _, rfl, rfl, (by show 1 ≤ sizeLine; decide), fun q2 H13 nq2 s13 hq2 => ?_⟩
      refine ⟨_, rfl, _, rfl, lc, _, rfl, SqL.of (s13 _ _ hc12), fun q3 H14 nq3 s14 hq3 => ?_⟩
      rw [List.map_cons, cutV_tail] at hq3
      refine ⟨q2, q3, _, _, rfl, rfl, s14 _ _ hq2, hq3, ?_, fun q4 H15 nq4 s15 hq4 => ?_⟩
      · rw [List.length_map]
        rw [List.length_cons] at cl
        exact sz_of (by show 1 + ns'.length ≤ _; omega)
      · have e4 : [V.int (c + 1)] ++ ns'.map V.int = ((c + 1) :: ns').map V.int := rfl
        rw [e4] at hq4
        have hs' : ((c + 1) :: ns').sum = (c :: ns').sum + 1 := by rw [List.sum_cons, List.sum_cons]; omega
        have h0' : ∀ z ∈ (c + 1) :: ns', 0 ≤ z := fun z hz => by
          rcases List.mem_cons.mp hz with e | e
          · omega
          · exact c0 z (List.mem_cons_of_mem _ e)
        refine fun z dz nz ndz _ => ⟨z, dz, q4, (c + 1) :: ns', 3000, rfl, upd_same, (Same.make nz ndz).seq (SqL.of hq4), h0', by omega, by omega, fun pv H16 bt16 hz16 hp16 => ⟨rfl, ?_⟩⟩
        have s16 := made_same nz ndz bt16
        have sF : Same H11 H16 := (((s12.trans s13).trans s14).trans s15).trans s16
        have C16 : AnsAt a H16 z (rowsF 0 ((c + 1) :: ns')) := ⟨dz, pv, hz16, hp16⟩
        refine ⟨x, dx8, _, _, rfl, sF _ _ (s81 _ _ hx8), T.ct_Answer.ty hz16, nf_own, x, rs, _, rfl, A11.keep sF, .inl ⟨z, _, rfl, C16, _, rfl, ?_⟩⟩
        have hne2 : ¬ rs = rowsF 0 ((c + 1) :: ns') := fun e => by
          have h1 := rowsF_len 0 _ h0'
          rw [← e] at h1
          omega
        rw [decide_eq_false hne2]
        exact hQ _ sF
    refine cut _ fun H17 s17 => ?_
    clear cut
    refine iteF ?_
    have A17 := A11.keep s17
    have hc17 := s17 _ _ hc11
    have hr17 := s17 _ _ hr11
    have hb17 := hb11.keep s17
    have hx17 := s17 _ _ (s81 _ _ hx8)
    have bt17 : But b H H17 := bt11.trans (But.of s17)
    -- for at in range(min(len(rows), 70))
    refine ⟨_, rfl, lr, _, rfl, .inl (SqL.of hr17), _, _, rfl, _, rfl, (by split <;> omega), (by split <;> omega), for_range (fun i σ H' => ∃ (v7 : Option V), σ = [some (.ref b), some (.ref lc), some (.ref lr), some (.ref lg), some (.ref x), some (.ref y), some (.bl (decide (ns = ns))), none, v7, none, none] ∧ H' = H17)
      ⟨_, rfl, rfl⟩ ?_ ?_⟩
    · rintro i σ H' hi ⟨v7, rfl, rfl⟩
      have hi2 : i < rs.length := by
        rw [List.length_map] at hi
        split at hi <;> omega
      obtain ⟨v1, _, hv1⟩ := atI_some (rs := rs) (i := (0 + (i : Nat) : Int)) (by omega) (by omega)
      obtain ⟨v2, _, hv2⟩ := atI_some (rs := rs) (i := (-1 - (0 + (i : Nat)) : Int)) (by omega) (by omega)
      refine ⟨_, rfl, _, rfl, x, dx8, _, rfl, hx17, x, rs, _, rfl, A17, .inl ⟨_, _, rfl, hv1, _, rfl, _, rfl, lr, _, _, _, rfl, rfl, SqL.of hr17, atI_map hv1, rfl, _, rfl, iteNS rfl ?_⟩⟩
      refine ⟨_, rfl, _, rfl, _, rfl, _, _, rfl, rfl, x, dx8, _, rfl, hx17, x, rs, _, rfl, A17, .inl ⟨_, _, rfl, hv2, _, rfl, _, rfl, _, rfl, _, _, rfl, rfl, lr, _, _, _, rfl, rfl, SqL.of hr17, atI_map hv2, rfl, _, rfl, iteNS rfl ?_⟩⟩
      exact ⟨_, rfl, rfl⟩
    rintro σ H' ⟨v7, rfl, rfl⟩
    -- low, high
    refine ⟨_, rfl, b, _, 9, rfl, hb17, by omega, by decide, by decide, fun r1 H18 r10 r11 hb18 bt18 => ?_⟩
    refine ⟨_, _, rfl, rfl, _, rfl, b, _, 40, rfl, hb18, by omega, by decide, by decide, fun r2 H19 r20 r21 hb19 bt19 => ?_⟩
    refine ⟨_, _, rfl, rfl, _, _, rfl, ?_⟩
    have btA := bt18.trans bt19
    have A19 := A17.but btA hb17.lst
    have nlcb : lc ≠ b := fun e => by
      rw [e] at nlc
      obtain ⟨d, m, c, z, _⟩ := hb
      rw [nlc] at z
      cases z
    have nlrb : lr ≠ b := fun e => by
      obtain ⟨xs, z⟩ := hb1.lst
      exact ne_of_none z nlr e.symm
    have hc19 := btA _ _ hc17 nlcb
    have hr19 := btA _ _ hr17 nlrb
    have hbF : BagAt H19 b (n + 67) := hb19
    have btF : But b H H19 := bt17.trans btA
    obtain ⟨dx9, p9, hx19, hp19⟩ := id A19
    clear A17 A11 B11 A8 B8
    -- slices
    refine ⟨_, rfl, _, rfl, _, rfl, _, rfl, _, rfl, x, dx9, _, rfl, hx19, fun sl H20 nsl s20 hsl => ⟨x, rs, _, rfl, A19.keep s20, .inr ⟨sl, _, _, rfl, hsl, fun p20 H21 s21 hp21 ty21 => ?_⟩⟩⟩
    refine ⟨_, _, _, _, true, rfl, .ty _, ty21, kit_ty (by decide +kernel), _, rfl, iteF ?_⟩
    have sA := s20.trans s21
    refine ⟨_, rfl, _, rfl, _, rfl, _, rfl, _, rfl, x, dx9, _, rfl, sA _ _ hx19, fun sl H22 nsl s22 hsl => ⟨x, rs, _, rfl, (A19.keep sA).keep s22, .inr ⟨sl, _, _, rfl, hsl, fun p22 H23 s23 hp23 ty23 => ?_⟩⟩⟩
    refine ⟨p22, _, rfl, .inr hp23, fun q23 H24 nq s24 hq24 => ?_⟩
    have sB : Same H19 H24 := ((sA.trans s22).trans s23).trans s24
    refine ⟨_, rfl, _, rfl, _, rfl, _, rfl, _, rfl, lr, _, rfl, SqL.of (sB _ _ hr19), fun q25 H25 nq s25 hq25 => ?_⟩
    rw [cutV_ints] at hq25
    refine ⟨q23, q25, _, _, rfl, rfl, SqL.of (s25 _ _ hq24), SqL.of hq25, _, rfl, iteNS rfl ?_⟩
    have sC : Same H19 H25 := sB.trans s25
    -- list(told[high:]) != rows[high:]
    refine ⟨_, rfl, _, rfl, _, rfl, x, dx9, _, rfl, sC _ _ hx19, fun sl H26 nsl s26 hsl => ⟨x, rs, _, rfl, (A19.keep sC).keep s26, .inr ⟨sl, _, _, rfl, hsl, fun p26 H27 s27 hp27 ty27 => ?_⟩⟩⟩
    refine ⟨p26, _, rfl, .inr hp27, fun q28 H28 nq s28 hq28 => ?_⟩
    have sD : Same H19 H28 := ((sC.trans s26).trans s27).trans s28
    refine ⟨_, rfl, _, rfl, _, rfl, lr, _, rfl, SqL.of (sD _ _ hr19), fun q29 H29 nq s29 hq29 => ?_⟩
    rw [cutV_ints] at hq29
    refine ⟨q28, q29, _, _, rfl, rfl, SqL.of (s29 _ _ hq28), SqL.of hq29, _, rfl, iteNS rfl ?_⟩
    have sE : Same H19 H29 := sD.trans s29
    -- list(told[:low]) != rows[:low]
    refine ⟨_, rfl, _, rfl, _, rfl, x, dx9, _, rfl, sE _ _ hx19, fun sl H30 nsl s30 hsl => ⟨x, rs, _, rfl, (A19.keep sE).keep s30, .inr ⟨sl, _, _, rfl, hsl, fun p30 H31 s31 hp31 ty31 => ?_⟩⟩⟩
    refine ⟨p30, _, rfl, .inr hp31, fun q32 H32 nq s32 hq32 => ?_⟩
    have sG : Same H19 H32 := ((sE.trans s30).trans s31).trans s32
    refine ⟨_, rfl, _, rfl, _, rfl, lr, _, rfl, SqL.of (sG _ _ hr19), fun q33 H33 nq s33 hq33 => ?_⟩
    rw [cutV_ints] at hq33
    refine ⟨q32, q33, _, _, rfl, rfl, SqL.of (s33 _ _ hq32), SqL.of hq33, _, rfl, iteNS rfl ?_⟩
    have sI : Same H19 H33 := sG.trans s33
    -- list(told[:]) != rows
    refine ⟨_, rfl, x, dx9, _, rfl, sI _ _ hx19, fun sl H34 nsl s34 hsl => ⟨x, rs, _, rfl, (A19.keep sI).keep s34, .inr ⟨sl, _, _, rfl, hsl, fun p34 H35 s35 hp35 ty35 => ?_⟩⟩⟩
    refine ⟨p34, _, rfl, .inr hp35, fun q36 H36 nq s36 hq36 => ?_⟩
    have sJ : Same H19 H36 := ((sI.trans s34).trans s35).trans s36
    have ew : cutI rs none none = rs := by
      unfold cutI
      rw [HT.sIx_none, HT.sIx_none, List.drop_zero, Nat.sub_zero, List.take_length]
    rw [ew] at hq36
    refine ⟨_, rfl, q36, lr, rs, rs, rfl, rfl, SqL.of hq36, SqL.of (sJ _ _ hr19), _, rfl, iteNS rfl ?_⟩
    have A36 := A19.keep sJ
    have hc36 := sJ _ _ hc19
    have hr36 := sJ _ _ hr19
    have hx36 := sJ _ _ hx19
    have hb36 := hbF.keep sJ
    have bt36 : But b H H36 := btF.trans (But.of sJ)
    -- the last loop
    refine ⟨_, rfl, _, rfl, _, rfl, lc, _, rfl, .inl (SqL.of hc36), _, _, rfl, rfl, ⟨by decide, by decide, by decide⟩, (by show 4 ≤ sizeLine; decide), fun q37 H37 nq37 s37 hq37 => ?_⟩
    refine ⟨_, rfl, lc, _, rfl, .inl (SqL.of (s37 _ _ hc36)), _, _, rfl, _, rfl, ?_, fun q38 nq38 => ?_⟩
    · refine RgOk.of_le (by decide) ?_ (by decide) ?_
      all_goals (split <;> omega)
    refine ⟨q37, q38, _, _, rfl, rfl, (by rw [upd_ne (ne_of_none hq37 nq38)]; exact hq37), upd_same, ?_, fun q39 H39 nq39 s39 hq39 => ?_⟩
    · rw [rgV_length]
      refine sz_of (show 4 + _ ≤ 100000 from ?_)
      split <;> omega
    have sK : Same H36 H39 := (s37.trans (Same.new nq38)).trans s39
    generalize hws : (_ ++ rgV 0 _ : List V) = ws at hq39
    have allI : ∀ v ∈ ws, ∃ i, v = V.int i := by
      intro v hv
      rw [← hws] at hv
      rcases List.mem_append.mp hv with h | h
      · simp only [List.mem_cons, List.not_mem_nil, or_false] at h
        rcases h with rfl | rfl | rfl | rfl
        all_goals exact ⟨_, rfl⟩
      · unfold rgV at h
        obtain ⟨j, _, rfl⟩ := List.mem_map.mp h
        exact ⟨_, rfl⟩
    clear hws
    refine ⟨q39, rfl, ⟨_, SqL.of hq39⟩, for_list (K := K) (a := q39) (xs := ws) (fun i σ H' => ∃ (v7 : Option V), σ = [some (.ref b), some (.ref lc), some (.ref lr), some (.ref lg), some (.ref x), some (.ref y), some (.bl (decide (ns = ns))), none, v7, some (.int (r1 - 4)), some (.int (r2 - 4))] ∧ H' = H39)
      ⟨_, rfl, rfl⟩ (fun i σ H' _ ⟨_, _, z⟩ => by rw [z]; exact SqL.of hq39) ?_ ?_⟩
    · rintro i v σ H' hv ⟨v7, rfl, rfl⟩
      obtain ⟨c, rfl⟩ := allI v (List.mem_of_getElem? hv)
      refine ⟨_, rfl, x, dx9, _, rfl, sK _ _ hx36, lk_Answer_no_times _, _, rfl, x, rs, c, rfl, A36.keep sK, ?_⟩
      refine ⟨_, rfl, .inl ⟨rfl, _, SqL.of (sK _ _ hr36)⟩, _, rfl, lr, rs, c, rfl, rfl, SqL.of (sK _ _ hr36), rfl, _, rfl, iteNS rfl ?_⟩
      refine ⟨_, rfl, _, rfl, x, dx9, _, rfl, sK _ _ hx36, x, rs, _, rfl, A36.keep sK, .inl ⟨c, rfl, _, rfl, ?_⟩⟩
      refine ⟨_, rfl, _, rfl, lr, _, rfl, .inl (SqL.of (sK _ _ hr36)), rfl, flat_ints rs, rfl, _, rfl, iteNS (by show V.bl (decide (c ∈ rs)) = V.bl (inV (.int c) (rs.map V.int)); rw [inV_ints]) ?_⟩
      refine ⟨_, rfl, x, dx9, _, rfl, sK _ _ hx36, lk_Answer_no_times _, _, rfl, x, rs, c, rfl, A36.keep sK, ?_⟩
      refine ⟨_, _, _, _, true, rfl, .ty _, .base (.int _), kit_ty (by decide +kernel), _, rfl, iteF ?_⟩
      exact ⟨_, rfl, rfl⟩
    rintro σ H' ⟨v7, rfl, rfl⟩
    -- other values
    refine ⟨(by show 1 ≤ sizeLine; decide), fun q40 H40 nq40 s40 hq40 => ?_⟩
    refine ⟨(by show 1 ≤ sizeLine; decide), fun q41 H41 nq41 s41 hq41 => ?_⟩
    refine ⟨(by show 6 ≤ sizeLine; decide), fun q42 H42 nq42 s42 hq42 => ?_⟩
    refine ⟨q42, rfl, ⟨_, SqT.of hq42⟩, fun D nD => ?_⟩
    have sL : Same H36 H42 := ((sK.trans s40).trans s41).trans s42
    refine lc_tup (K := K) (a := q42) (xs := [.bl true, .bl false, .non, .str "0", .ref q40, .ref q41]) (fun i H' => H' D = some (.lst ((List.replicate i false).map V.bl)) ∧ Same H42 H')
      ⟨upd_same, Same.new nD⟩ (fun i H' _ ⟨_, z⟩ => SqT.of (z _ _ hq42)) ?_ ?_
    · rintro i v H' hv ⟨hD', z⟩
      have i6 : i < 6 := (List.getElem?_eq_some_iff.mp hv).1
      have tail : ∃ acc, H' D = some (.lst acc) ∧ acc.length < sizeLine ∧ (upd H' D (.lst (acc ++ [V.bl false]))) D = some (.lst ((List.replicate (i + 1) false).map V.bl)) ∧ Same H42 (upd H' D (.lst (acc ++ [V.bl false]))) := by
        refine ⟨_, hD', ?_, ?_, ?_⟩
        · rw [List.length_map, List.length_replicate]
          exact sz_lt (by omega)
        · rw [upd_same, ← rep_snoc, List.map_append]
          rfl
        · exact fun q o e => by rw [upd_ne (ne_of_none e nD)]; exact z q o e
      have hxz := z _ _ (sL _ _ hx36)
      have Az := (A36.keep sL).keep z
      have mem := List.mem_of_getElem? hv
      simp only [List.mem_cons, List.not_mem_nil, or_false] at mem
      refine ⟨rfl, _, rfl, _, rfl, x, dx9, _, rfl, hxz, x, rs, _, rfl, Az, ?_⟩
      rcases mem with rfl | rfl | rfl | rfl | rfl | rfl
      · exact .inr (.inl ⟨true, rfl, _, rfl, tail⟩)
      · exact .inr (.inl ⟨false, rfl, _, rfl, tail⟩)
      · exact .inr (.inr ⟨_, .base .non, kit_ty (by decide +kernel), _, rfl, tail⟩)
      · exact .inr (.inr ⟨_, .base (.str _), kit_ty (by decide +kernel), _, rfl, tail⟩)
      · exact .inr (.inr ⟨_, .base (.tup (z _ _ (s42 _ _ (s41 _ _ hq40)))), kit_ty (by decide +kernel), _, rfl, tail⟩)
      · exact .inr (.inr ⟨_, .base (.lst (z _ _ (s42 _ _ hq41))), kit_ty (by decide +kernel), _, rfl, tail⟩)
    rintro H43 ⟨hD43, s43⟩
    refine ⟨D, _, rfl, SqL.of hD43, _, rfl, ?_⟩
    rw [any_rep]
    exact k H43 ((hb36.keep sL).keep s43) (bt36.trans (But.of (sL.trans s43)))

def spLaw (K : PySem.W.Frag) : Sp := fun vs H Q _ => ∃ (a : Addr) (ns : List Int), vs = [.ref a] ∧ SqL K H a (ns.map V.int) ∧ ns.length ≤ 63 ∧ ∀ H', Q (.bl true) H'
theorem sc_law : FnScope ["_law_script", "_law_at", "_law_bag_here", "_law_turn"] ["_law_script"] (defScope s_law) := ⟨rfl, rfl, rfl, by decide +kernel, rfl, by decide +kernel, by decide +kernel⟩
theorem ok_law (T : Txt K mg a) : FnOk P w K mg base CX0 5 a.f_law a.d_law ["_law_script"] (spLaw K) := by
  refine T.F_law.ok sc_law (fun vs H Q E h => ?_) (fun cdv A outer s H vs Q E hr h => ?_)
  · obtain ⟨l, ns, rfl, _⟩ := h
    rfl
  · obtain ⟨l, ns, rfl, hS, hlen, k⟩ := h
    refine ⟨_, (pss_cons (ps_for PassesOwn.never rfl (pi_range1 (by rfl) T.b_range (pa_cons (pe_callB (call_max2 rfl) (by rfl) T.b_max (by decide +kernel) (pa_cons pe_int (pa_cons (pe_callB (call_min2 rfl) (by rfl) T.b_min (by decide +kernel) (pa_cons pe_int (pa_cons (pe_callB call_len_seq (by rfl) T.b_len PySem.boot_len (pa_cons (pv 0) pa_nil)) pa_nil))) pa_nil))) pa_nil)) (pg_name (i := 1) sc_law.nd rfl (.inl rfl))
      (pss_cons (ps_set (i := 2) sc_law.nd rfl (.inl rfl) (pe_call (ok_l_bag T) (hr.mono (by decide)) rfl T.m_l_bag T.k_l_bag T.a_l_bag .nil pass0 (pa_cons (pv 0) (pa_cons (pv 1) pa_nil))))
      (pss_one (ps_for PassesOwn.never rfl (pi_range1 (by rfl) T.b_range (pa_cons pe_int pa_nil)) (pg_name (i := 3) sc_law.nd rfl (.inl rfl))
      (pss_one (ps_if (pt_not (pt_val (pe_call (ok_l_right T) (hr.mono (by decide)) rfl T.m_l_right T.k_l_right T.a_l_right .nil pass0 (pa_cons (pv 2) pa_nil)))) (pss_one (ps_ret pe_bl)) pss_nil))))))
      (pss_one (ps_ret pe_bl))), ?_⟩
    refine ⟨_, rfl, l, _, rfl, .inl hS, _, _, rfl, _, _, rfl, _, rfl, ?_, ?_, ?_⟩
    · split <;> split <;> omega
    · split <;> split <;> omega
    generalize em : Int.toNat _ = m
    have hm : m ≤ 4 := by
      rw [← em]
      split <;> split <;> omega
    refine for_range (lo := 0) (n := m) (fun i σ H' => ∃ (v1 v2 v3 : Option V), σ = [some (.ref l), v1, v2, v3] ∧ Same H H') ⟨_, _, _, rfl, Same.refl _⟩ ?_ ?_
    · rintro i σ H' hi ⟨v1, v2, v3, rfl, sm⟩
      refine ⟨_, rfl, _, rfl, l, ns, i, (by rw [Int.zero_add]; rfl), sm.seq hS, by omega, fun b d m H2 nb s2 hb d0 m0 m1 => ?_⟩
      have hb0 : BagAt H2 b 0 := ⟨d, m, 0, hb, d0, m0, m1, by decide, by decide⟩
      have nb0 : H b = none := sm.free nb
      refine ⟨2, rfl, by decide, by decide, for_range (lo := 0) (n := 2) (fun j σ H' => ∃ (v3 : Option V), σ = [some (.ref l), some (.int (0 + (i : Nat))), some (.ref b), v3] ∧ Same H H' ∧ BagAt H' b (67 * j)) ⟨_, rfl, sm.trans s2, hb0⟩ ?_ ?_⟩
      · rintro j σ H3 hj ⟨v3, rfl, s3, hb3⟩
        refine ⟨_, rfl, b, _, rfl, hb3, by omega, fun H4 hb4 bt4 => ?_⟩
        refine ⟨_, rfl, iteF ?_⟩
        exact ⟨_, rfl, fun q o e => bt4 q o (s3 q o e) (ne_of_none e nb0), hb4.mono (by omega)⟩
      · rintro σ H3 ⟨v3, rfl, s3, hb3⟩
        exact ⟨_, _, _, rfl, s3⟩
    · rintro σ H' ⟨v1, v2, v3, rfl, sm⟩
      exact k H'

end
end Toy

set_option Elab.async false
set_option linter.all false
set_option maxRecDepth 100000
set_option maxHeartbeats 4000000
namespace Toy
open PySem L2 Lf
theorem txt_mk {K : PySem.W.Frag} {h : Heap} {mg : Str → Option Value} {C_Answer : Addr} {f_is_integer : Addr} {od_is_integer an_is_integer : Option Addr} {sl_is_integer : Array (Option Value)} {oc_is_integer kV_is_integer dc_is_integer pm_is_integer cd_is_integer ct_is_integer : Value} {f_repeated_positions : Addr} {od_repeated_positions an_repeated_positions : Option Addr} {sl_repeated_positions : Array (Option Value)} {oc_repeated_positions kV_repeated_positions dc_repeated_positions pm_repeated_positions cd_repeated_positions ct_repeated_positions : Value} {f_Answer__init : Addr} {od_Answer__init an_Answer__init : Option Addr} {sl_Answer__init : Array (Option Value)} {oc_Answer__init dc_Answer__init pm_Answer__init cd_Answer__init ct_Answer__init : Value} {D_Answer__init : Addr} {tk_Answer__init_most : Tok} {f_Answer__len : Addr} {od_Answer__len an_Answer__len : Option Addr} {sl_Answer__len : Array (Option Value)} {oc_Answer__len kV_Answer__len dc_Answer__len pm_Answer__len cd_Answer__len ct_Answer__len : Value} {f_Answer__getitem : Addr} {od_Answer__getitem an_Answer__getitem : Option Addr} {sl_Answer__getitem : Array (Option Value)} {oc_Answer__getitem kV_Answer__getitem dc_Answer__getitem pm_Answer__getitem cd_Answer__getitem ct_Answer__getitem : Value} {f_Answer__contains : Addr} {od_Answer__contains an_Answer__contains : Option Addr} {sl_Answer__contains : Array (Option Value)} {oc_Answer__contains kV_Answer__contains dc_Answer__contains pm_Answer__contains cd_Answer__contains ct_Answer__contains : Value} {f_Answer__eq : Addr} {od_Answer__eq an_Answer__eq : Option Addr} {sl_Answer__eq : Array (Option Value)} {oc_Answer__eq kV_Answer__eq dc_Answer__eq pm_Answer__eq cd_Answer__eq ct_Answer__eq : Value} {f_Answer_times : Addr} {od_Answer_times an_Answer_times : Option Addr} {sl_Answer_times : Array (Option Value)} {oc_Answer_times kV_Answer_times dc_Answer_times pm_Answer_times cd_Answer_times ct_Answer_times : Value} {f_l_bag : Addr} {od_l_bag an_l_bag : Option Addr} {sl_l_bag : Array (Option Value)} {oc_l_bag kV_l_bag dc_l_bag pm_l_bag cd_l_bag ct_l_bag : Value} {f_l_draw : Addr} {od_l_draw an_l_draw : Option Addr} {sl_l_draw : Array (Option Value)} {oc_l_draw kV_l_draw dc_l_draw pm_l_draw cd_l_draw ct_l_draw : Value} {f_l_of : Addr} {od_l_of an_l_of : Option Addr} {sl_l_of : Array (Option Value)} {oc_l_of kV_l_of dc_l_of pm_l_of cd_l_of ct_l_of : Value} {f_l_counts : Addr} {od_l_counts an_l_counts : Option Addr} {sl_l_counts : Array (Option Value)} {oc_l_counts kV_l_counts dc_l_counts pm_l_counts cd_l_counts ct_l_counts : Value} {f_l_rows : Addr} {od_l_rows an_l_rows : Option Addr} {sl_l_rows : Array (Option Value)} {oc_l_rows kV_l_rows dc_l_rows pm_l_rows cd_l_rows ct_l_rows : Value} {f_l_right : Addr} {od_l_right an_l_right : Option Addr} {sl_l_right : Array (Option Value)} {oc_l_right kV_l_right dc_l_right pm_l_right cd_l_right ct_l_right : Value} {f_law : Addr} {od_law an_law : Option Addr} {sl_law : Array (Option Value)} {oc_law kV_law dc_law pm_law cd_law ct_law : Value} (X : K.In h) (Gm : h.Ns mainGlobals mg)
    (aC_Answer : PySem.W.nsIn K mainGlobals "Answer" = some (some (.ref C_Answer)))
    (a_is_integer : PySem.W.nsIn K mainGlobals "is_integer" = some (some (.ref f_is_integer)))
    (l_is_integer : K.lookup f_is_integer = some ⟨oc_is_integer, od_is_integer, .func (PySem.W.fnOf "is_integer" "is_integer" (defArgs s_is_integer) (defBody s_is_integer) (defScope s_is_integer) .none kV_is_integer dc_is_integer pm_is_integer an_is_integer cd_is_integer ct_is_integer), sl_is_integer⟩)
    (c_is_integer : PySem.W.codeIn K cd_is_integer "is_integer" = true)
    (k_is_integer : PySem.W.keepIn K (.ref f_is_integer) = true)
    (a_repeated_positions : PySem.W.nsIn K mainGlobals "repeated_positions" = some (some (.ref f_repeated_positions)))
    (l_repeated_positions : K.lookup f_repeated_positions = some ⟨oc_repeated_positions, od_repeated_positions, .func (PySem.W.fnOf "repeated_positions" "repeated_positions" (defArgs s_repeated_positions) (defBody s_repeated_positions) (defScope s_repeated_positions) .none kV_repeated_positions dc_repeated_positions pm_repeated_positions an_repeated_positions cd_repeated_positions ct_repeated_positions), sl_repeated_positions⟩)
    (c_repeated_positions : PySem.W.codeIn K cd_repeated_positions "repeated_positions" = true)
    (k_repeated_positions : PySem.W.keepIn K (.ref f_repeated_positions) = true)
    (a_Answer__init : PySem.W.findIn K (.ref C_Answer) "__init__" = some (some (.ref f_Answer__init)))
    (i_Answer__init : PySem.W.isFn K (.ref f_Answer__init) = true)
    (fi_Answer__init : PySem.W.fnIn K f_Answer__init = true)
    (l_Answer__init : K.lookup f_Answer__init = some ⟨oc_Answer__init, od_Answer__init, .func (PySem.W.fnOf "__init__" "Answer.__init__" (defArgs s_Answer__init) (defBody s_Answer__init) (defScope s_Answer__init) .none (.ref D_Answer__init) dc_Answer__init pm_Answer__init an_Answer__init cd_Answer__init ct_Answer__init), sl_Answer__init⟩)
    (kw_Answer__init_most : PySem.W.nsIn K D_Answer__init "most" = some (some (.int 3000 tk_Answer__init_most)))
    (c_Answer__init : PySem.W.codeIn K cd_Answer__init "Answer.__init__" = true)
    (k_Answer__init : PySem.W.keepIn K (.ref f_Answer__init) = true)
    (a_Answer__len : PySem.W.findIn K (.ref C_Answer) "__len__" = some (some (.ref f_Answer__len)))
    (i_Answer__len : PySem.W.isFn K (.ref f_Answer__len) = true)
    (fi_Answer__len : PySem.W.fnIn K f_Answer__len = true)
    (l_Answer__len : K.lookup f_Answer__len = some ⟨oc_Answer__len, od_Answer__len, .func (PySem.W.fnOf "__len__" "Answer.__len__" (defArgs s_Answer__len) (defBody s_Answer__len) (defScope s_Answer__len) .none kV_Answer__len dc_Answer__len pm_Answer__len an_Answer__len cd_Answer__len ct_Answer__len), sl_Answer__len⟩)
    (c_Answer__len : PySem.W.codeIn K cd_Answer__len "Answer.__len__" = true)
    (k_Answer__len : PySem.W.keepIn K (.ref f_Answer__len) = true)
    (a_Answer__getitem : PySem.W.findIn K (.ref C_Answer) "__getitem__" = some (some (.ref f_Answer__getitem)))
    (i_Answer__getitem : PySem.W.isFn K (.ref f_Answer__getitem) = true)
    (fi_Answer__getitem : PySem.W.fnIn K f_Answer__getitem = true)
    (l_Answer__getitem : K.lookup f_Answer__getitem = some ⟨oc_Answer__getitem, od_Answer__getitem, .func (PySem.W.fnOf "__getitem__" "Answer.__getitem__" (defArgs s_Answer__getitem) (defBody s_Answer__getitem) (defScope s_Answer__getitem) .none kV_Answer__getitem dc_Answer__getitem pm_Answer__getitem an_Answer__getitem cd_Answer__getitem ct_Answer__getitem), sl_Answer__getitem⟩)
    (c_Answer__getitem : PySem.W.codeIn K cd_Answer__getitem "Answer.__getitem__" = true)
    (k_Answer__getitem : PySem.W.keepIn K (.ref f_Answer__getitem) = true)
    (a_Answer__contains : PySem.W.findIn K (.ref C_Answer) "__contains__" = some (some (.ref f_Answer__contains)))
    (i_Answer__contains : PySem.W.isFn K (.ref f_Answer__contains) = true)
    (fi_Answer__contains : PySem.W.fnIn K f_Answer__contains = true)
    (l_Answer__contains : K.lookup f_Answer__contains = some ⟨oc_Answer__contains, od_Answer__contains, .func (PySem.W.fnOf "__contains__" "Answer.__contains__" (defArgs s_Answer__contains) (defBody s_Answer__contains) (defScope s_Answer__contains) .none kV_Answer__contains dc_Answer__contains pm_Answer__contains an_Answer__contains cd_Answer__contains ct_Answer__contains), sl_Answer__contains⟩)
    (c_Answer__contains : PySem.W.codeIn K cd_Answer__contains "Answer.__contains__" = true)
    (k_Answer__contains : PySem.W.keepIn K (.ref f_Answer__contains) = true)
    (a_Answer__eq : PySem.W.findIn K (.ref C_Answer) "__eq__" = some (some (.ref f_Answer__eq)))
    (i_Answer__eq : PySem.W.isFn K (.ref f_Answer__eq) = true)
    (fi_Answer__eq : PySem.W.fnIn K f_Answer__eq = true)
    (l_Answer__eq : K.lookup f_Answer__eq = some ⟨oc_Answer__eq, od_Answer__eq, .func (PySem.W.fnOf "__eq__" "Answer.__eq__" (defArgs s_Answer__eq) (defBody s_Answer__eq) (defScope s_Answer__eq) .none kV_Answer__eq dc_Answer__eq pm_Answer__eq an_Answer__eq cd_Answer__eq ct_Answer__eq), sl_Answer__eq⟩)
    (c_Answer__eq : PySem.W.codeIn K cd_Answer__eq "Answer.__eq__" = true)
    (k_Answer__eq : PySem.W.keepIn K (.ref f_Answer__eq) = true)
    (a_Answer_times : PySem.W.findIn K (.ref C_Answer) "times" = some (some (.ref f_Answer_times)))
    (i_Answer_times : PySem.W.isFn K (.ref f_Answer_times) = true)
    (fi_Answer_times : PySem.W.fnIn K f_Answer_times = true)
    (l_Answer_times : K.lookup f_Answer_times = some ⟨oc_Answer_times, od_Answer_times, .func (PySem.W.fnOf "times" "Answer.times" (defArgs s_Answer_times) (defBody s_Answer_times) (defScope s_Answer_times) .none kV_Answer_times dc_Answer_times pm_Answer_times an_Answer_times cd_Answer_times ct_Answer_times), sl_Answer_times⟩)
    (c_Answer_times : PySem.W.codeIn K cd_Answer_times "Answer.times" = true)
    (k_Answer_times : PySem.W.keepIn K (.ref f_Answer_times) = true)
    (a_l_bag : PySem.W.nsIn K mainGlobals "_law_bag" = some (some (.ref f_l_bag)))
    (l_l_bag : K.lookup f_l_bag = some ⟨oc_l_bag, od_l_bag, .func (PySem.W.fnOf "_law_bag" "_law_bag" (defArgs s_l_bag) (defBody s_l_bag) (defScope s_l_bag) .none kV_l_bag dc_l_bag pm_l_bag an_l_bag cd_l_bag ct_l_bag), sl_l_bag⟩)
    (c_l_bag : PySem.W.codeIn K cd_l_bag "_law_bag" = true)
    (k_l_bag : PySem.W.keepIn K (.ref f_l_bag) = true)
    (a_l_draw : PySem.W.nsIn K mainGlobals "_law_draw" = some (some (.ref f_l_draw)))
    (l_l_draw : K.lookup f_l_draw = some ⟨oc_l_draw, od_l_draw, .func (PySem.W.fnOf "_law_draw" "_law_draw" (defArgs s_l_draw) (defBody s_l_draw) (defScope s_l_draw) .none kV_l_draw dc_l_draw pm_l_draw an_l_draw cd_l_draw ct_l_draw), sl_l_draw⟩)
    (c_l_draw : PySem.W.codeIn K cd_l_draw "_law_draw" = true)
    (k_l_draw : PySem.W.keepIn K (.ref f_l_draw) = true)
    (a_l_of : PySem.W.nsIn K mainGlobals "_law_of" = some (some (.ref f_l_of)))
    (l_l_of : K.lookup f_l_of = some ⟨oc_l_of, od_l_of, .func (PySem.W.fnOf "_law_of" "_law_of" (defArgs s_l_of) (defBody s_l_of) (defScope s_l_of) .none kV_l_of dc_l_of pm_l_of an_l_of cd_l_of ct_l_of), sl_l_of⟩)
    (c_l_of : PySem.W.codeIn K cd_l_of "_law_of" = true)
    (k_l_of : PySem.W.keepIn K (.ref f_l_of) = true)
    (a_l_counts : PySem.W.nsIn K mainGlobals "_law_counts" = some (some (.ref f_l_counts)))
    (l_l_counts : K.lookup f_l_counts = some ⟨oc_l_counts, od_l_counts, .func (PySem.W.fnOf "_law_counts" "_law_counts" (defArgs s_l_counts) (defBody s_l_counts) (defScope s_l_counts) .none kV_l_counts dc_l_counts pm_l_counts an_l_counts cd_l_counts ct_l_counts), sl_l_counts⟩)
    (c_l_counts : PySem.W.codeIn K cd_l_counts "_law_counts" = true)
    (k_l_counts : PySem.W.keepIn K (.ref f_l_counts) = true)
    (a_l_rows : PySem.W.nsIn K mainGlobals "_law_rows" = some (some (.ref f_l_rows)))
    (l_l_rows : K.lookup f_l_rows = some ⟨oc_l_rows, od_l_rows, .func (PySem.W.fnOf "_law_rows" "_law_rows" (defArgs s_l_rows) (defBody s_l_rows) (defScope s_l_rows) .none kV_l_rows dc_l_rows pm_l_rows an_l_rows cd_l_rows ct_l_rows), sl_l_rows⟩)
    (c_l_rows : PySem.W.codeIn K cd_l_rows "_law_rows" = true)
    (k_l_rows : PySem.W.keepIn K (.ref f_l_rows) = true)
    (a_l_right : PySem.W.nsIn K mainGlobals "_law_right" = some (some (.ref f_l_right)))
    (l_l_right : K.lookup f_l_right = some ⟨oc_l_right, od_l_right, .func (PySem.W.fnOf "_law_right" "_law_right" (defArgs s_l_right) (defBody s_l_right) (defScope s_l_right) .none kV_l_right dc_l_right pm_l_right an_l_right cd_l_right ct_l_right), sl_l_right⟩)
    (c_l_right : PySem.W.codeIn K cd_l_right "_law_right" = true)
    (k_l_right : PySem.W.keepIn K (.ref f_l_right) = true)
    (a_law : PySem.W.nsIn K mainGlobals "law" = some (some (.ref f_law)))
    (l_law : K.lookup f_law = some ⟨oc_law, od_law, .func (PySem.W.fnOf "law" "law" (defArgs s_law) (defBody s_law) (defScope s_law) .none kV_law dc_law pm_law an_law cd_law ct_law), sl_law⟩)
    (c_law : PySem.W.codeIn K cd_law "law" = true)
    (k_law : PySem.W.keepIn K (.ref f_law) = true)
    (pg_Answer : PySem.W.plainGet K C_Answer Str.empty = true)
    (hd_Answer : PySem.W.hasDictIn K C_Answer = true)
    (po_Answer : PySem.W.plainOver K C_Answer = true)
    (sa_Answer : PySem.W.findIn K (.ref C_Answer) "__setattr__" = some (some (.builtin "object.__setattr__")))
    (kc_Answer : PySem.W.keepIn K (.ref C_Answer) = true)
    (ca_Answer : PySem.W.findIn K (.ref C_Answer) "__class__" = some (some (.builtin "object.__class__")))
    (cn_Answer : PySem.W.specialIn K (.builtin "object.__class__") "__get__" = some (some (.builtin "getset_descriptor.__get__")))
    (ctk_Answer : PySem.W.takesIn K (.builtin "object.__class__") = some true)
    (cm_Answer : PySem.W.mroIn K C_Answer (.type "object") = some true)
    (ic_Answer : PySem.W.isClsIn K C_Answer = true)
    (tc_Answer : PySem.W.typeIn K (.ref C_Answer) = some (.type "type"))
    (ne_Answer : PySem.W.findIn K (.ref C_Answer) "__ne__" = some (some (.builtin "object.__ne__")))
    (mk_Answer : PySem.W.makesIn K C_Answer = true)
    (nq_Answer : PySem.W.noSeq K C_Answer = true)
    (n_Answer_rows : PySem.W.findIn K (.ref C_Answer) "rows" = some none)
    (b_len : PySem.W.nsIn K mainGlobals "len" = some none)
    (b_abs : PySem.W.nsIn K mainGlobals "abs" = some none)
    (b_int : PySem.W.nsIn K mainGlobals "int" = some none)
    (b_range : PySem.W.nsIn K mainGlobals "range" = some none)
    (b_isinstance : PySem.W.nsIn K mainGlobals "isinstance" = some none)
    (b_max : PySem.W.nsIn K mainGlobals "max" = some none)
    (b_min : PySem.W.nsIn K mainGlobals "min" = some none)
    (b_sum : PySem.W.nsIn K mainGlobals "sum" = some none)
    (b_list : PySem.W.nsIn K mainGlobals "list" = some none)
    (b_tuple : PySem.W.nsIn K mainGlobals "tuple" = some none)
    (b_enumerate : PySem.W.nsIn K mainGlobals "enumerate" = some none)
    (b_any : PySem.W.nsIn K mainGlobals "any" = some none)
    (b_bool : PySem.W.nsIn K mainGlobals "bool" = some none) :
    Txt K mg ⟨f_is_integer, PySem.W.fnOf "is_integer" "is_integer" (defArgs s_is_integer) (defBody s_is_integer) (defScope s_is_integer) .none kV_is_integer dc_is_integer pm_is_integer an_is_integer cd_is_integer ct_is_integer, f_repeated_positions, PySem.W.fnOf "repeated_positions" "repeated_positions" (defArgs s_repeated_positions) (defBody s_repeated_positions) (defScope s_repeated_positions) .none kV_repeated_positions dc_repeated_positions pm_repeated_positions an_repeated_positions cd_repeated_positions ct_repeated_positions, f_Answer__init, PySem.W.fnOf "__init__" "Answer.__init__" (defArgs s_Answer__init) (defBody s_Answer__init) (defScope s_Answer__init) .none (.ref D_Answer__init) dc_Answer__init pm_Answer__init an_Answer__init cd_Answer__init ct_Answer__init, f_Answer__len, PySem.W.fnOf "__len__" "Answer.__len__" (defArgs s_Answer__len) (defBody s_Answer__len) (defScope s_Answer__len) .none kV_Answer__len dc_Answer__len pm_Answer__len an_Answer__len cd_Answer__len ct_Answer__len, f_Answer__getitem, PySem.W.fnOf "__getitem__" "Answer.__getitem__" (defArgs s_Answer__getitem) (defBody s_Answer__getitem) (defScope s_Answer__getitem) .none kV_Answer__getitem dc_Answer__getitem pm_Answer__getitem an_Answer__getitem cd_Answer__getitem ct_Answer__getitem, f_Answer__contains, PySem.W.fnOf "__contains__" "Answer.__contains__" (defArgs s_Answer__contains) (defBody s_Answer__contains) (defScope s_Answer__contains) .none kV_Answer__contains dc_Answer__contains pm_Answer__contains an_Answer__contains cd_Answer__contains ct_Answer__contains, f_Answer__eq, PySem.W.fnOf "__eq__" "Answer.__eq__" (defArgs s_Answer__eq) (defBody s_Answer__eq) (defScope s_Answer__eq) .none kV_Answer__eq dc_Answer__eq pm_Answer__eq an_Answer__eq cd_Answer__eq ct_Answer__eq, f_Answer_times, PySem.W.fnOf "times" "Answer.times" (defArgs s_Answer_times) (defBody s_Answer_times) (defScope s_Answer_times) .none kV_Answer_times dc_Answer_times pm_Answer_times an_Answer_times cd_Answer_times ct_Answer_times, f_l_bag, PySem.W.fnOf "_law_bag" "_law_bag" (defArgs s_l_bag) (defBody s_l_bag) (defScope s_l_bag) .none kV_l_bag dc_l_bag pm_l_bag an_l_bag cd_l_bag ct_l_bag, f_l_draw, PySem.W.fnOf "_law_draw" "_law_draw" (defArgs s_l_draw) (defBody s_l_draw) (defScope s_l_draw) .none kV_l_draw dc_l_draw pm_l_draw an_l_draw cd_l_draw ct_l_draw, f_l_of, PySem.W.fnOf "_law_of" "_law_of" (defArgs s_l_of) (defBody s_l_of) (defScope s_l_of) .none kV_l_of dc_l_of pm_l_of an_l_of cd_l_of ct_l_of, f_l_counts, PySem.W.fnOf "_law_counts" "_law_counts" (defArgs s_l_counts) (defBody s_l_counts) (defScope s_l_counts) .none kV_l_counts dc_l_counts pm_l_counts an_l_counts cd_l_counts ct_l_counts, f_l_rows, PySem.W.fnOf "_law_rows" "_law_rows" (defArgs s_l_rows) (defBody s_l_rows) (defScope s_l_rows) .none kV_l_rows dc_l_rows pm_l_rows an_l_rows cd_l_rows ct_l_rows, f_l_right, PySem.W.fnOf "_law_right" "_law_right" (defArgs s_l_right) (defBody s_l_right) (defScope s_l_right) .none kV_l_right dc_l_right pm_l_right an_l_right cd_l_right ct_l_right, f_law, PySem.W.fnOf "law" "law" (defArgs s_law) (defBody s_law) (defScope s_law) .none kV_law dc_law pm_law an_law cd_law ct_law, C_Answer⟩ where
  k_is_integer := k_is_integer
  F_is_integer := fun_mk (st := s_is_integer) l_is_integer c_is_integer k_is_integer
  a_is_integer := (fun_mk (st := s_is_integer) l_is_integer c_is_integer k_is_integer).binds (ps := ["value"]) fun _ _ _ _ _ _ us hl => match us, hl with | [_], _ => rfl
  m_is_integer := PySem.W.mg_of X Gm a_is_integer
  k_repeated_positions := k_repeated_positions
  F_repeated_positions := fun_mk (st := s_repeated_positions) l_repeated_positions c_repeated_positions k_repeated_positions
  a_repeated_positions := (fun_mk (st := s_repeated_positions) l_repeated_positions c_repeated_positions k_repeated_positions).binds (ps := ["times"]) fun _ _ _ _ _ _ us hl => match us, hl with | [_], _ => rfl
  m_repeated_positions := PySem.W.mg_of X Gm a_repeated_positions
  k_Answer__init := k_Answer__init
  F_Answer__init := ⟨⟨oc_Answer__init, od_Answer__init, _, _, dc_Answer__init, pm_Answer__init, an_Answer__init, cd_Answer__init, ct_Answer__init, sl_Answer__init, rfl, l_Answer__init, c_Answer__init, .inl ⟨rfl, rfl⟩, .inr ⟨D_Answer__init, rfl, fun q hq => by (simp only [List.mem_cons, List.not_mem_nil, or_false] at hq; rcases hq with rfl; exact ⟨_, kw_Answer__init_most, ⟨_, rfl⟩⟩)⟩⟩, k_Answer__init⟩
  a_Answer__init := FunD.binds0 (ps := ["self", "times", "most"]) (⟨⟨oc_Answer__init, od_Answer__init, _, _, dc_Answer__init, pm_Answer__init, an_Answer__init, cd_Answer__init, ct_Answer__init, sl_Answer__init, rfl, l_Answer__init, c_Answer__init, .inl ⟨rfl, rfl⟩, .inr ⟨D_Answer__init, rfl, fun q hq => by (simp only [List.mem_cons, List.not_mem_nil, or_false] at hq; rcases hq with rfl; exact ⟨_, kw_Answer__init_most, ⟨_, rfl⟩⟩)⟩⟩, k_Answer__init⟩ : FunD K "__init__" "Answer.__init__" (defArgs s_Answer__init) (defBody s_Answer__init) (defScope s_Answer__init) [] [("most", .int 3000)] _ _) 2 (by simp) rfl fun _ _ _ _ _ _ us ks h1 h2 => match us, ks, h1, h2 with | [_, _], [_], _, _ => ⟨_, _, _, _, _, _, rfl, rfl, rfl⟩
  t_Answer__init := ⟨a_Answer__init, i_Answer__init, k_Answer__init⟩
  f_Answer__init := a_Answer__init
  i_Answer__init := i_Answer__init
  fi_Answer__init := fi_Answer__init
  k_Answer__len := k_Answer__len
  F_Answer__len := fun_mk (st := s_Answer__len) l_Answer__len c_Answer__len k_Answer__len
  a_Answer__len := (fun_mk (st := s_Answer__len) l_Answer__len c_Answer__len k_Answer__len).binds (ps := ["self"]) fun _ _ _ _ _ _ us hl => match us, hl with | [_], _ => rfl
  t_Answer__len := ⟨a_Answer__len, i_Answer__len, k_Answer__len⟩
  f_Answer__len := a_Answer__len
  i_Answer__len := i_Answer__len
  fi_Answer__len := fi_Answer__len
  k_Answer__getitem := k_Answer__getitem
  F_Answer__getitem := fun_mk (st := s_Answer__getitem) l_Answer__getitem c_Answer__getitem k_Answer__getitem
  a_Answer__getitem := (fun_mk (st := s_Answer__getitem) l_Answer__getitem c_Answer__getitem k_Answer__getitem).binds (ps := ["self", "at"]) fun _ _ _ _ _ _ us hl => match us, hl with | [_, _], _ => rfl
  t_Answer__getitem := ⟨a_Answer__getitem, i_Answer__getitem, k_Answer__getitem⟩
  f_Answer__getitem := a_Answer__getitem
  i_Answer__getitem := i_Answer__getitem
  fi_Answer__getitem := fi_Answer__getitem
  k_Answer__contains := k_Answer__contains
  F_Answer__contains := fun_mk (st := s_Answer__contains) l_Answer__contains c_Answer__contains k_Answer__contains
  a_Answer__contains := (fun_mk (st := s_Answer__contains) l_Answer__contains c_Answer__contains k_Answer__contains).binds (ps := ["self", "position"]) fun _ _ _ _ _ _ us hl => match us, hl with | [_, _], _ => rfl
  t_Answer__contains := ⟨a_Answer__contains, i_Answer__contains, k_Answer__contains⟩
  f_Answer__contains := a_Answer__contains
  i_Answer__contains := i_Answer__contains
  fi_Answer__contains := fi_Answer__contains
  k_Answer__eq := k_Answer__eq
  F_Answer__eq := fun_mk (st := s_Answer__eq) l_Answer__eq c_Answer__eq k_Answer__eq
  a_Answer__eq := (fun_mk (st := s_Answer__eq) l_Answer__eq c_Answer__eq k_Answer__eq).binds (ps := ["self", "other"]) fun _ _ _ _ _ _ us hl => match us, hl with | [_, _], _ => rfl
  t_Answer__eq := ⟨a_Answer__eq, i_Answer__eq, k_Answer__eq⟩
  f_Answer__eq := a_Answer__eq
  i_Answer__eq := i_Answer__eq
  fi_Answer__eq := fi_Answer__eq
  k_Answer_times := k_Answer_times
  F_Answer_times := fun_mk (st := s_Answer_times) l_Answer_times c_Answer_times k_Answer_times
  a_Answer_times := (fun_mk (st := s_Answer_times) l_Answer_times c_Answer_times k_Answer_times).binds (ps := ["self", "position"]) fun _ _ _ _ _ _ us hl => match us, hl with | [_, _], _ => rfl
  t_Answer_times := ⟨a_Answer_times, i_Answer_times, k_Answer_times⟩
  f_Answer_times := a_Answer_times
  i_Answer_times := i_Answer_times
  fi_Answer_times := fi_Answer_times
  k_l_bag := k_l_bag
  F_l_bag := fun_mk (st := s_l_bag) l_l_bag c_l_bag k_l_bag
  a_l_bag := (fun_mk (st := s_l_bag) l_l_bag c_l_bag k_l_bag).binds (ps := ["_law_script", "_law_at"]) fun _ _ _ _ _ _ us hl => match us, hl with | [_, _], _ => rfl
  m_l_bag := PySem.W.mg_of X Gm a_l_bag
  k_l_draw := k_l_draw
  F_l_draw := fun_mk (st := s_l_draw) l_l_draw c_l_draw k_l_draw
  a_l_draw := (fun_mk (st := s_l_draw) l_l_draw c_l_draw k_l_draw).binds (ps := ["_law_bag_here", "_law_many"]) fun _ _ _ _ _ _ us hl => match us, hl with | [_, _], _ => rfl
  m_l_draw := PySem.W.mg_of X Gm a_l_draw
  k_l_of := k_l_of
  F_l_of := fun_mk (st := s_l_of) l_l_of c_l_of k_l_of
  a_l_of := (fun_mk (st := s_l_of) l_l_of c_l_of k_l_of).binds (ps := ["_law_bag_here", "_law_some"]) fun _ _ _ _ _ _ us hl => match us, hl with | [_, _], _ => rfl
  m_l_of := PySem.W.mg_of X Gm a_l_of
  k_l_counts := k_l_counts
  F_l_counts := fun_mk (st := s_l_counts) l_l_counts c_l_counts k_l_counts
  a_l_counts := (fun_mk (st := s_l_counts) l_l_counts c_l_counts k_l_counts).binds (ps := ["_law_bag_here"]) fun _ _ _ _ _ _ us hl => match us, hl with | [_], _ => rfl
  m_l_counts := PySem.W.mg_of X Gm a_l_counts
  k_l_rows := k_l_rows
  F_l_rows := fun_mk (st := s_l_rows) l_l_rows c_l_rows k_l_rows
  a_l_rows := (fun_mk (st := s_l_rows) l_l_rows c_l_rows k_l_rows).binds (ps := ["_law_counts_here"]) fun _ _ _ _ _ _ us hl => match us, hl with | [_], _ => rfl
  m_l_rows := PySem.W.mg_of X Gm a_l_rows
  k_l_right := k_l_right
  F_l_right := fun_mk (st := s_l_right) l_l_right c_l_right k_l_right
  a_l_right := (fun_mk (st := s_l_right) l_l_right c_l_right k_l_right).binds (ps := ["_law_bag_here"]) fun _ _ _ _ _ _ us hl => match us, hl with | [_], _ => rfl
  m_l_right := PySem.W.mg_of X Gm a_l_right
  k_law := k_law
  F_law := fun_mk (st := s_law) l_law c_law k_law
  a_law := (fun_mk (st := s_law) l_law c_law k_law).binds (ps := ["_law_script"]) fun _ _ _ _ _ _ us hl => match us, hl with | [_], _ => rfl
  m_law := PySem.W.mg_of X Gm a_law
  ct_Answer := ⟨⟨pg_Answer, hd_Answer, po_Answer, sa_Answer⟩, ca_Answer, cn_Answer, ctk_Answer, cm_Answer, isc_mk ic_Answer tc_Answer, ne_Answer⟩
  m_Answer := PySem.W.mg_of X Gm aC_Answer
  mk_Answer := ⟨mk_Answer, a_Answer__init, i_Answer__init, kc_Answer⟩
  nq_Answer := nq_Answer
  n_Answer_rows := n_Answer_rows
  b_len := PySem.W.mg_none_of X Gm b_len
  b_abs := PySem.W.mg_none_of X Gm b_abs
  b_int := PySem.W.mg_none_of X Gm b_int
  b_range := PySem.W.mg_none_of X Gm b_range
  b_isinstance := PySem.W.mg_none_of X Gm b_isinstance
  b_max := PySem.W.mg_none_of X Gm b_max
  b_min := PySem.W.mg_none_of X Gm b_min
  b_sum := PySem.W.mg_none_of X Gm b_sum
  b_list := PySem.W.mg_none_of X Gm b_list
  b_tuple := PySem.W.mg_none_of X Gm b_tuple
  b_enumerate := PySem.W.mg_none_of X Gm b_enumerate
  b_any := PySem.W.mg_none_of X Gm b_any
  b_bool := PySem.W.mg_none_of X Gm b_bool
theorem all_mk {l : PySem.W.OpenLaw} {w : World} {K : PySem.W.Frag} {h : Heap} {mg : Str → Option Value} {fa : Addr} {a : Ad} {kV' dc pm cd ct : Value} {an : Option Addr} (hfa : mg "law" = some (.ref fa)) (T : Txt K mg a) (e0 : a.d_law = PySem.W.fnOf "law" "law" (defArgs s_law) (defBody s_law) (defScope s_law) .none kV' dc pm an cd ct) :
    ∃ fd : FuncData, (∀ (s : Shared) (v : Value), BindsTo s fd ⟨[v], []⟩ [("_law_script", v)]) ∧ ∀ base : Heap, K.In base → base.Ns mainGlobals mg → FnOk l.prog w K mg base CX0 5 fa fd ["_law_script"] (spLaw K) := by
  have e := hfa.symm.trans T.m_law
  cases e
  refine ⟨a.d_law, fun s v => by rw [e0]; exact .of_eq rfl, fun base _ _ => ok_law T⟩
theorem walk {l : PySem.W.OpenLaw} {q : Program} {loose : List Str} {XP : (Str → Option Value) → Heap → Prop} {YP : World → Heap → Prop} {d : DefRec} {K : Params → PySem.W.Frag} (hn : l.most = some 63) (hdf : d.params.defaults = [])
    (hY : ∀ (w : World) (h : Heap), YP w h → (K w.params).In h)
    (F : ∀ (w : World) (mg : Str → Option Value) (fa : Addr) (h : Heap), (K w.params).In h → h.Ns mainGlobals mg → mg d.name = some (.ref fa) →
      ∃ fd : FuncData, (∀ (s : Shared) (u : Value), BindsTo s fd ⟨[u], []⟩ [("_law_script", u)]) ∧ ∀ base : Heap, (K w.params).In base → base.Ns mainGlobals mg → FnOk l.prog w (K w.params) mg base CX0 5 fa fd ["_law_script"] (spLaw (K w.params))) :
    PySem.W.WalkO q loose XP YP l.row.toRowW d [] (fun f vs => PySem.call f vs) :=
  L2.walk_of (n := 63) (k := 5) (x := "_law_script") (CX := fun _ => CX0) (sp := fun w => spLaw (K w.params)) hn (by decide) hdf ⟨rfl, by decide, by decide⟩ hY F (fun _ _ a ns hl _ hS => ⟨a, ns, rfl, hS, hl, fun _ => rfl⟩) fun _ _ _ _ _ z => z
end Toy
open PySem PySem.W PyProof.Rows
set_option maxRecDepth 100000 in
set_option maxHeartbeats 0 in
theorem PySem.Challenge.cw_linkedfilters_k57_answers_made_holds : PySem.Challenge.rw_linkedfilters_k57_answers_made.Holds := by
  w_on; o_law; k_head; (case hw => w_witness2)
  k_fill
  refine Toy.walk (l := PySem.Challenge.rw_linkedfilters_k57_answers_made) rfl rfl (fun w h Y => PySem.W.kIn_of Y) ?F
  case F =>
    intro w mg fa h KX G hmg
    refine' Toy.all_mk (h := h) hmg (Toy.txt_mk KX G ?h_aC_Answer ?h_a_is_integer ?h_l_is_integer ?h_c_is_integer ?h_k_is_integer ?h_a_repeated_positions ?h_l_repeated_positions ?h_c_repeated_positions ?h_k_repeated_positions ?h_a_Answer__init ?h_i_Answer__init ?h_fi_Answer__init ?h_l_Answer__init ?h_kw_Answer__init_most ?h_c_Answer__init ?h_k_Answer__init ?h_a_Answer__len ?h_i_Answer__len ?h_fi_Answer__len ?h_l_Answer__len ?h_c_Answer__len ?h_k_Answer__len ?h_a_Answer__getitem ?h_i_Answer__getitem ?h_fi_Answer__getitem ?h_l_Answer__getitem ?h_c_Answer__getitem ?h_k_Answer__getitem ?h_a_Answer__contains ?h_i_Answer__contains ?h_fi_Answer__contains ?h_l_Answer__contains ?h_c_Answer__contains ?h_k_Answer__contains ?h_a_Answer__eq ?h_i_Answer__eq ?h_fi_Answer__eq ?h_l_Answer__eq ?h_c_Answer__eq ?h_k_Answer__eq ?h_a_Answer_times ?h_i_Answer_times ?h_fi_Answer_times ?h_l_Answer_times ?h_c_Answer_times ?h_k_Answer_times ?h_a_l_bag ?h_l_l_bag ?h_c_l_bag ?h_k_l_bag ?h_a_l_draw ?h_l_l_draw ?h_c_l_draw ?h_k_l_draw ?h_a_l_of ?h_l_l_of ?h_c_l_of ?h_k_l_of ?h_a_l_counts ?h_l_l_counts ?h_c_l_counts ?h_k_l_counts ?h_a_l_rows ?h_l_l_rows ?h_c_l_rows ?h_k_l_rows ?h_a_l_right ?h_l_l_right ?h_c_l_right ?h_k_l_right ?h_a_law ?h_l_law ?h_c_law ?h_k_law ?h_pg_Answer ?h_hd_Answer ?h_po_Answer ?h_sa_Answer ?h_kc_Answer ?h_ca_Answer ?h_cn_Answer ?h_ctk_Answer ?h_cm_Answer ?h_ic_Answer ?h_tc_Answer ?h_ne_Answer ?h_mk_Answer ?h_nq_Answer ?h_n_Answer_rows ?h_b_len ?h_b_abs ?h_b_int ?h_b_range ?h_b_isinstance ?h_b_max ?h_b_min ?h_b_sum ?h_b_list ?h_b_tuple ?h_b_enumerate ?h_b_any ?h_b_bool) rfl
    (case h_aC_Answer => k_is); (case h_a_is_integer => k_is); (case h_l_is_integer => k_is); (case h_c_is_integer => k_is); (case h_k_is_integer => k_is); (case h_a_repeated_positions => k_is)
    (case h_l_repeated_positions => k_is); (case h_c_repeated_positions => k_is); (case h_k_repeated_positions => k_is); (case h_a_Answer__init => k_is); (case h_i_Answer__init => k_is); (case h_fi_Answer__init => k_is)
    (case h_l_Answer__init => k_is); (case h_kw_Answer__init_most => k_is); (case h_c_Answer__init => k_is); (case h_k_Answer__init => k_is); (case h_a_Answer__len => k_is); (case h_i_Answer__len => k_is)
    (case h_fi_Answer__len => k_is); (case h_l_Answer__len => k_is); (case h_c_Answer__len => k_is); (case h_k_Answer__len => k_is); (case h_a_Answer__getitem => k_is); (case h_i_Answer__getitem => k_is)
    (case h_fi_Answer__getitem => k_is); (case h_l_Answer__getitem => k_is); (case h_c_Answer__getitem => k_is); (case h_k_Answer__getitem => k_is); (case h_a_Answer__contains => k_is); (case h_i_Answer__contains => k_is)
    (case h_fi_Answer__contains => k_is); (case h_l_Answer__contains => k_is); (case h_c_Answer__contains => k_is); (case h_k_Answer__contains => k_is); (case h_a_Answer__eq => k_is); (case h_i_Answer__eq => k_is)
    (case h_fi_Answer__eq => k_is); (case h_l_Answer__eq => k_is); (case h_c_Answer__eq => k_is); (case h_k_Answer__eq => k_is); (case h_a_Answer_times => k_is); (case h_i_Answer_times => k_is)
    (case h_fi_Answer_times => k_is); (case h_l_Answer_times => k_is); (case h_c_Answer_times => k_is); (case h_k_Answer_times => k_is); (case h_a_l_bag => k_is); (case h_l_l_bag => k_is)
    (case h_c_l_bag => k_is); (case h_k_l_bag => k_is); (case h_a_l_draw => k_is); (case h_l_l_draw => k_is); (case h_c_l_draw => k_is); (case h_k_l_draw => k_is)
    (case h_a_l_of => k_is); (case h_l_l_of => k_is); (case h_c_l_of => k_is); (case h_k_l_of => k_is); (case h_a_l_counts => k_is); (case h_l_l_counts => k_is)
    (case h_c_l_counts => k_is); (case h_k_l_counts => k_is); (case h_a_l_rows => k_is); (case h_l_l_rows => k_is); (case h_c_l_rows => k_is); (case h_k_l_rows => k_is)
    (case h_a_l_right => k_is); (case h_l_l_right => k_is); (case h_c_l_right => k_is); (case h_k_l_right => k_is); (case h_a_law => k_is); (case h_l_law => k_is)
    (case h_c_law => k_is); (case h_k_law => k_is); (case h_pg_Answer => k_is); (case h_hd_Answer => k_is); (case h_po_Answer => k_is); (case h_sa_Answer => k_is)
    (case h_kc_Answer => k_is); (case h_ca_Answer => k_is); (case h_cn_Answer => k_is); (case h_ctk_Answer => k_is); (case h_cm_Answer => k_is); (case h_ic_Answer => k_is)
    (case h_tc_Answer => k_is); (case h_ne_Answer => k_is); (case h_mk_Answer => k_is); (case h_nq_Answer => k_is); (case h_n_Answer_rows => k_is); (case h_b_len => k_is)
    (case h_b_abs => k_is); (case h_b_int => k_is); (case h_b_range => k_is); (case h_b_isinstance => k_is); (case h_b_max => k_is); (case h_b_min => k_is)
    (case h_b_sum => k_is); (case h_b_list => k_is); (case h_b_tuple => k_is); (case h_b_enumerate => k_is); (case h_b_any => k_is); (case h_b_bool => k_is)

