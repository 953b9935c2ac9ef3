import PyProof.Rows.All
import Wide.All
import OpenK.AllK
import Wide.FinOn
import HandS.ForMost
import HandS.More
import HandS.IsInst
import HandS.ClsMeth
import HandS.FStr
import KE.KCallOwn
import KE.KFmtOwn
import HandS.TupAny
import HandS.SetFor
import HandS.Conv
import HandS.Defaults
import HandS.MakeKwOnly
import HandS.Comp
import PyProof.MeetsStr3
import PyProof.StrLawsLast
import PyProof.StrLawsIn
import HandS.Text
import HandS.Exc
import HandS.ExcOwn
import HandS.ExcInit
import HandS.ExcField
import HandS.ExcIs
import HandS.WordsExc
import HandS.Star
import KE.KExcIs
import HandS.Walk
import HandS.Deep
import HandS.Wide
import HandS.SortOrd
import HandS.SortRule
import HandS.SortInts
import HandS.Dict
import HandS.TupMul
import HandS.Steps
import HandS.Iter
import KE.KUnpackStar
import HandS.TryOnly
import HandS.Zip
import HandS.Zip0
import PyProof.Draws
import PyProof.EnumMake
import HandS.DeepEq
import HandS.Style
import HandS.RaiseMore
import KE.SortData
import KE.DataCmp
import KE.KDictZip
import KE.KDictList
import PySem.Challenge.RW_linkedfilters_k08_bounds_of_schemas
set_option Elab.async false
set_option linter.all false
set_option maxRecDepth 100000
set_option maxHeartbeats 4000000
/-! Rules of our own: ==, != and str by own methods of a plain class, a class called from a slot. -/
namespace Lf
open PySem PySem.Spec PyProof.Rows L2

section
variable {prog : Program} {w : World} {A : Around} {E : Value → Shared → Prop} {s : Shared} {K : PySem.W.Frag} {x C f : Addr} {ox : Obj} {od : Option Obj} {b tb : Value}
theorem ifBound_objNe {M : Model} {args : List Value} {Q : Option Value → Shared → Prop} (X : K.In s.heap) (I : PySem.W.InstAt s.heap x ox C od)
    (hs : PySem.W.findIn K (.ref C) "__ne__" = some (some (.builtin "object.__ne__")))
    (h : wpAny M A (call (.builtin "object.__ne__") (.ref x :: args)) (fun v => Q (some v)) E s) : wpAny M A (callSpecialIfBound? (.ref x) "__ne__" args) Q E s := by
  simp only [callSpecialIfBound?, bindSpecialIfBound?]
  refine wpAny_holding (wpAny_bind (wpAny_bind (wpAny_bind (I.type.here ((PySem.W.looks_findIn X hs).here ?_)))))
  refine wpAny_bind (wpAny_askSetting (wpAny_ite ?_))
  have fin : wpAny M A (call (.builtin "object.__ne__") ([.ref x] ++ args) >>= fun v => pure (some v)) Q E s :=
    wpAny_bind (wpAny_mono h (fun v s' h' => wpAny_pure h') fun _ _ h' => h')
  split
  · exact wpAny_bind (wpAny_of_eq (F.cmp_object.ne.bind _) (wpAny_pure (by exact fin)))
  · exact wpAny_tryCatch (wpAny_bind (wpAny_of_eq (F.cmp_object.ne.bind _) (wpAny_pure (by exact fin))))
theorem call_objNe {Q : Value → Shared → Prop} (hu : A.in1.units < cLine) (X : K.In s.heap) (I : PySem.W.InstAt s.heap x ox C od) (hm : PySem.W.mroIn K C (.type "object") = some true)
    (hs : PySem.W.findIn K (.ref C) "__eq__" = some (some (.ref f))) (hf : PySem.W.isFn K (.ref f) = true)
    (h : wpAny (model prog w) A.in1 (call (.ref f) [.ref x, b]) (fun v s' => ∃ k, v = .bool k ∧ Q (.bool (!k)) s') E s) :
    wpAny (model prog w) A (call (.builtin "object.__ne__") [.ref x, b]) Q E s := by
  refine wpAny_call (codeAny_call_builtin F.cmp_object.ne.plain F.cmpEntry_ne (PySem.W.check_slot F.cmpKind_ne F.cmpSplit_ne (I.type.andThen (PySem.W.looks_mroIn X hm)) (F.cmpArgs_ne _ _) ?_))
  unfold Builtin.«object.__ne__»
  refine wpAny_bind (m := slotArgs "__ne__" 1 _) (wpAny_pure ?_)
  refine wpAny_bind (m := cRoomFor _ _) (wpAny_cRoomFor hu ?_)
  refine wpAny_bind (m := callSpecialIfBound? (.ref x) (Str.ofString "__eq__") _) (PySem.W.ifBound_K X I hs hf (wpAny_mono h (fun r s' hq => ?_) fun _ _ y => y))
  obtain ⟨k, rfl, hq⟩ := hq
  exact wpAny_bind (wpAny_truthy_bool (wpAny_pure hq))
/-- x != b by an own __eq__ that answers a bool -/
theorem cmp_ne_K {Q : Value → Shared → Prop} (hu : A.units < cLine) (hu1 : A.in1.units < cLine) (X : K.In s.heap) (I : PySem.W.InstAt s.heap x ox C od)
    (hb : PySem.W.Looks (model prog w) s.heap (typeOf b) tb) (hn : PySem.W.notFirst K C tb = true) (hm : PySem.W.mroIn K C (.type "object") = some true)
    (hne : PySem.W.findIn K (.ref C) "__ne__" = some (some (.builtin "object.__ne__"))) (hs : PySem.W.findIn K (.ref C) "__eq__" = some (some (.ref f))) (hf : PySem.W.isFn K (.ref f) = true)
    (h : wpAny (model prog w) A.in1 (call (.ref f) [.ref x, b]) (fun v s' => ∃ k, v = .bool k ∧ Q (.bool (!k)) s') E s) :
    wpAny (model prog w) A (richCompare .NotEq (.ref x) b) Q E s := by
  have one : wpAny (model prog w) A (tryCompare (.ref x) "__ne__" b) (fun r s' => ∃ v, r = some v ∧ Q v s') E s := by
    unfold tryCompare
    refine wpAny_bind (ifBound_objNe X I hne (call_objNe hu1 X I hm hs hf (wpAny_mono h (fun v s' hv => ?_) fun _ _ e => e)))
    obtain ⟨k, rfl, hq⟩ := hv
    exact ⟨k, rfl, wpAny_pure ⟨_, rfl, hq⟩⟩
  unfold richCompare
  simp only [oneThing_ref]
  refine wpAny_holding (wpAny_bind (wpAny_cRoomFor hu ?_))
  refine wpAny_bind (I.type.here (wpAny_bind (hb.here ?_)))
  split
  · rename_i q
    have e : PySem.W.subIn K tb (.ref C) = some false := by
      rcases Bool.or_eq_true_iff.mp hn with e | e
      · rw [beq_iff_eq.mp e] at q; simp at q
      · exact beq_iff_eq.mp e
    refine wpAny_bind ((PySem.W.looks_subIn X e).here ?_)
    simp only [Bool.false_eq_true, if_false]
    refine wpAny_bind (wpAny_mono one (fun r s' z => ?_) fun _ _ e => e)
    obtain ⟨v, rfl, hq⟩ := z
    exact wpAny_pure hq
  · refine wpAny_bind (wpAny_pure ?_)
    simp only [Bool.false_eq_true, if_false]
    refine wpAny_bind (wpAny_mono one (fun r s' z => ?_) fun _ _ e => e)
    obtain ⟨v, rfl, hq⟩ := z
    exact wpAny_pure hq
end

theorem cmpback {P : Value → Shared → Prop} {z : V} {v : Value} {s' : Shared} (r : RelV z v) (h : P v s') : PySem.W.CmpBack P v s' := by
  cases z with
  | non => cases (show v = Value.none from r); exact h
  | bl b => cases (show v = Value.bool b from r); exact h
  | int i => obtain ⟨t, e⟩ := (show ∃ t, v = Value.int i t from r); cases e; exact h
  | str x => obtain ⟨t, e⟩ := (show ∃ t, v = Value.str x t from r); cases e; exact h
  | byt b => obtain ⟨t, e⟩ := (show ∃ t, v = Value.bytes b t from r); cases e; exact h
  | flt b => obtain ⟨t, e⟩ := (show ∃ t, v = Value.float b t from r); cases e; exact h
  | ref a => cases (show v = Value.ref a from r); exact h
  | ty n => cases (show v = Value.type n from r); exact h

section
variable {X : Cx} {CX : CXT} {pins : List (Addr × Obj)} {σ : L2.St} {H : Hp} {s : Shared} {a C dx p g : Addr} {fs : List (Str × V)} {n : Nat} {sp : Sp} {E : XK}
theorem run_atR {A : Around} {Q : VK} {us : List Value} {ws : List V} (F : FnR X.prog X.w X.K X.mg X.base CX n g sp) (hr : Room n A) (e0 : Env0 X.prog X.w X.K X.mg X.base A X.stack s H) (hx : Passes CX X E)
    (I : Inv X pins σ H s) (r : Vals ws us) (h : sp ws H Q E) :
    codeAny (model X.prog X.w) A (.call (.ref g) ⟨us, []⟩) (fun r s' => match r with | .ok (.ret v) => EP X pins σ Q v s' | .ok _ => False | .error e => X.xe e s') s := by
  refine codeAny_mono (F A X.stack s H us ws Q E hr e0 r h) fun r s' hq => ?_
  cases r with
  | error e => exact hx pins σ H s e s' I hq
  | ok fl =>
    cases fl with
    | ret u => exact I.after hq
    | next => exact False.elim hq
    | brk => exact False.elim hq
    | cont => exact False.elim hq
/-- x == y, x an instance of C with an own __eq__ -/
def rOwnEq (K : PySem.W.Frag) (C : Addr) (sp : Sp) (E : XK) : R2 := fun x y H Q => ∃ (a dx : Addr) (fs : List (Str × V)) (t : Value), x = .ref a ∧ H a = some (.ins C dx fs) ∧ TyX K H y t ∧ PySem.W.notFirst K C t = true ∧ sp [x, y] H Q E
def rOwnNe (K : PySem.W.Frag) (C : Addr) (sp : Sp) (E : XK) : R2 := fun x y H Q => ∃ (a dx : Addr) (fs : List (Str × V)) (t : Value), x = .ref a ∧ H a = some (.ins C dx fs) ∧ TyX K H y t ∧ PySem.W.notFirst K C t = true ∧
  sp [x, y] H (fun v H' => ∃ k, v = .bl k ∧ Q (.bl (!k)) H') E
theorem op_ownEq (hs : PySem.W.findIn X.K (.ref C) "__eq__" = some (some (.ref g))) (hf : PySem.W.isFn X.K (.ref g) = true) (F : FnR X.prog X.w X.K X.mg X.base CX n g sp) (hr : Room n X.A) (hx : Passes CX X E) :
    OpR X (compareOp .Eq) (rOwnEq X.K C sp E) := by
  intro pins s σ H x y v u Q I rx ry h
  obtain ⟨a, dx, fs, t, rfl, ha, ty, hn, q⟩ := h
  cases (show v = Value.ref a from rx)
  obtain ⟨mA, O, _⟩ := ins_get I.hok ha
  obtain ⟨od, J, _⟩ := O.look
  obtain ⟨P, Z, hp, _⟩ := kit_of I ry ty
  obtain ⟨m, hF⟩ := I.fr
  show wpAny _ _ (richCompare .Eq (.ref a) u) _ _ _
  refine PySem.W.cmp_K (op := .Eq) (tb := t) hr.units0 hF I.ok.mod.kin J (Z.ty _ _ I.kIn hp) hn hs hf ?_
  refine wpAny_mono (wpAny_call (run_fnR (us := [.ref a, u]) (vs := [.ref a, y]) F hr hx I (.cons rfl (.cons ry .nil)) q)) (fun w s' z => ?_) fun _ _ x => x
  obtain ⟨z', H', I', rz, qz⟩ := z
  exact cmpback rz ⟨z', H', I', rz, qz⟩
theorem op_ownNe (hm : PySem.W.mroIn X.K C (.type "object") = some true) (hne : PySem.W.findIn X.K (.ref C) "__ne__" = some (some (.builtin "object.__ne__")))
    (hs : PySem.W.findIn X.K (.ref C) "__eq__" = some (some (.ref g))) (hf : PySem.W.isFn X.K (.ref g) = true) (F : FnR X.prog X.w X.K X.mg X.base CX n g sp) (hr : Room (n + 1) X.A) (hx : Passes CX X E) :
    OpR X (compareOp .NotEq) (rOwnNe X.K C sp E) := by
  intro pins s σ H x y v u Q I rx ry h
  obtain ⟨a, dx, fs, t, rfl, ha, ty, hn, q⟩ := h
  cases (show v = Value.ref a from rx)
  obtain ⟨mA, O, _⟩ := ins_get I.hok ha
  obtain ⟨od, J, _⟩ := O.look
  obtain ⟨P, Z, hp, _⟩ := kit_of I ry ty
  show wpAny _ _ (richCompare .NotEq (.ref a) u) _ _ _
  refine cmp_ne_K (tb := t) hr.units0 hr.in1.units0 I.kIn J (Z.ty _ _ I.kIn hp) hn hm hne hs hf ?_
  refine wpAny_mono (wpAny_call (run_atR (us := [.ref a, u]) (ws := [.ref a, y]) F hr.in1 I.env0.in1 hx I (.cons rfl (.cons ry .nil)) q)) (fun w s' z => ?_) fun _ _ x => x
  obtain ⟨z', H', I', rz, k, ek, qz⟩ := z
  subst ek
  exact ⟨k, rz, .bl (!k), H', I', rfl, qz⟩
/-- str(x) by an own __str__ -/
def rStrOwn (C : Addr) (sp : Sp) (E : XK) : List V → Hp → VK → Prop := fun xs H Q => ∃ (a dx : Addr) (fs : List (Str × V)), xs = [V.ref a] ∧ H a = some (.ins C dx fs) ∧ sp [.ref a] H (fun z H' => ∃ y, z = .str y ∧ Q z H') E
theorem call_strOwn (hs : PySem.W.findIn X.K (.ref C) "__str__" = some (some (.ref g))) (hf : PySem.W.isFn X.K (.ref g) = true) (F : FnR X.prog X.w X.K X.mg X.base CX n g sp) (hr : Room (n + 2) X.A) (hx : Passes CX X E) :
    CallR X (.type "str") (rStrOwn C sp E) := by
  intro pins s σ H xs us Q I r h
  obtain ⟨a, dx, fs, rfl, ha, q⟩ := h
  obtain ⟨u, rfl, ru⟩ := vals1 r
  cases (show u = Value.ref a from ru)
  obtain ⟨mA, O, _⟩ := ins_get I.hok ha
  obtain ⟨od, J, _⟩ := O.look
  have hr2 : Room n X.A.in1.in1 := (show Room (n + 1) X.A.in1 from Room.in1 hr).in1
  refine PySem.W.kso_call hr2.units0 I.kIn J hs hf (wpAny_mono (wpAny_call (run_atR (us := [.ref a]) (ws := [.ref a]) F hr2 I.env0.in1.in1 hx I (.cons rfl .nil) q)) (fun w s' z => ?_) fun _ _ x => x)
  obtain ⟨z', H', I', rz, y, ey, qz⟩ := z
  subst ey
  obtain ⟨t, e⟩ := (show ∃ t, w = Value.str y t from rz)
  cases e
  exact ⟨.str y, H', I', ⟨t, rfl⟩, qz⟩
end

/-- cls(..), the class at C in the i-th slot -/
def tMakeL (i : Nat) (C : Addr) (sp : Sp) (dvs : List V) (E : XK) (t : TA) : TE := fun σ H Q => σ[i]? = some (some (.ref C)) ∧ t σ H fun vs H1 => ∀ x dx, H1 x = none → H1 dx = none → dx ≠ x →
  sp (.ref x :: (vs ++ dvs)) (upd (upd H1 dx (.own x)) x (.ins C dx [])) (fun v H2 => v = .non ∧ Q (.ref x) H2) E
section
variable {X : Cx} {CX : CXT} {k i : Nat} {f C : Addr} {fd : FuncData} {ps : List Str} {sp : Sp} {dvs : List V} {ds : List Value} {E : XK} {x : Str} {p pos : Pos} {e : Expr} {es : List Expr} {t : TA}
theorem pe_makeL (M : Mk X.K C f) (F : FnOk X.prog X.w X.K X.mg X.base CX k f fd ps sp) (hr : Room (k + 1) X.A) (hN : X.N[i]? = some x) (hv : Vis X.env.scope x) (hb : Binds X.K fd ps ds) (hd : Vals dvs ds) (hx : Passes CX X E)
    (ha : PA X (e :: es) t) (hdb : (x == ("__debug__" : Str)) = false := by decide) (hcd : (x == ("__classdict__" : Str)) = false := by decide)
    (he : starEach (e :: es) X.env = (false, eval e X.env) :: starEach es X.env := by rfl) (hpl : (backTo pos (starEach es X.env)).any (·.1) = false := by rfl) :
    PE X (.Call (.Name x p) (e :: es) [] pos) (tMakeL i C sp dvs E t) := by
  refine ⟨fun pins s σ H Q I h => ?_⟩
  obtain ⟨hs, ht⟩ := h
  refine wpAny_Call_Name_kw (thn ((pe_var (pos := p) hN hv hdb hcd).run pins s σ H (fun v H1 => v = .ref C ∧ H1 = H) I ⟨.ref C, hs, rfl, rfl⟩) fun u s1 ⟨v, H1, I1, r1, q1⟩ => ?_)
  obtain ⟨rfl, rfl⟩ := q1
  cases r1
  refine PySem.W.callWith_K (h₀ := X.base) I.ok.mod.kin M.kp (thn (ha.run pos pins s1 σ _ _ I1 ht) fun us s2 ⟨vs, H2, I2, r, q⟩ => ⟨I2.kIn, ?_⟩) he hpl
  exact run_make M F hr hb hd hx I2 r q
end

/-! ### types of values, classes -/
def notRef : Value → Bool
  | .ref _ => false
  | _ => true
def noRefs (l : List Value) : Bool := l.all notRef
theorem noRefs_of {l : List Value} {C : Addr} (h : noRefs l = true) : l.contains (.ref C) = false := by
  induction l with
  | nil => rfl
  | cons v l ih =>
    unfold noRefs at h
    rw [List.all_cons, Bool.and_eq_true] at h
    have h2 : l.contains (.ref C) = false := ih h.2
    rw [List.contains_cons, h2, Bool.or_false]
    cases v with
    | ref a => exact absurd h.1 (by show ¬ (false = true); decide)
    | _ => rfl
theorem sub_ty {K : PySem.W.Frag} {T : String} {C : Addr} (h : (fastBuiltinMro T).any noRefs = true) : PySem.W.subIn K (.type T) (.ref C) = some false := by
  show (fastBuiltinMro T).map (·.contains (.ref C)) = some false
  cases e : fastBuiltinMro T with
  | none => rw [e] at h; cases h
  | some l =>
    rw [e] at h
    exact congrArg some (noRefs_of h)
theorem nf_ty {K : PySem.W.Frag} {T : String} {C : Addr} (h : (fastBuiltinMro T).any noRefs = true) : PySem.W.notFirst K C (.type T) = true := by
  unfold PySem.W.notFirst
  rw [sub_ty h]
  exact Bool.or_true _
theorem nf_own {K : PySem.W.Frag} {C : Addr} : PySem.W.notFirst K C (.ref C) = true := by
  unfold PySem.W.notFirst
  rw [beq_self_eq_true]
  exact Bool.true_or _
theorem mro_str : (fastBuiltinMro "str").any noRefs = true := by decide +kernel
theorem mro_int : (fastBuiltinMro "int").any noRefs = true := by decide +kernel
theorem mro_bool : (fastBuiltinMro "bool").any noRefs = true := by decide +kernel
theorem mro_none : (fastBuiltinMro "NoneType").any noRefs = true := by decide +kernel
theorem mro_tuple : (fastBuiltinMro "tuple").any noRefs = true := by decide +kernel
theorem mro_list : (fastBuiltinMro "list").any noRefs = true := by decide +kernel
/-- what of the text a class must have: its instances are read, compared, asked for their class -/
structure ClsT (K : PySem.W.Frag) (C : Addr) : Prop where
  cl : Cls K C
  ca : PySem.W.findIn K (.ref C) "__class__" = some (some (.builtin "object.__class__"))
  cn : PySem.W.specialIn K (.builtin "object.__class__") "__get__" = some (some (.builtin "getset_descriptor.__get__"))
  ct : PySem.W.takesIn K (.builtin "object.__class__") = some true
  cm : PySem.W.mroIn K C (.type "object") = some true
  isc : ((PySem.W.clsIn K C).isSome && PySem.W.typeIn K (.ref C) == some (.type "type")) = true
  ne : PySem.W.findIn K (.ref C) "__ne__" = some (some (.builtin "object.__ne__"))
theorem isc_mk {K : PySem.W.Frag} {C : Addr} (a : PySem.W.isClsIn K C = true) (b : PySem.W.typeIn K (.ref C) = some (.type "type")) : ((PySem.W.clsIn K C).isSome && PySem.W.typeIn K (.ref C) == some (.type "type")) = true := by
  rw [b, show (PySem.W.clsIn K C).isSome = true from a]
  rfl
theorem ClsT.ty {K : PySem.W.Frag} {C : Addr} (c : ClsT K C) {H : Hp} {a dx : Addr} {fs : List (Str × V)} (h : H a = some (.ins C dx fs)) : TyX K H (.ref a) (.ref C) := .base (.ins h c.cl c.ca c.cn c.ct c.cm)
theorem kit_own {K : PySem.W.Frag} {C : Addr} : PySem.W.kitOne K (.ref C) (.ref C) = some true := by
  unfold PySem.W.kitOne
  rw [beq_self_eq_true]
  exact if_pos rfl
theorem ClsT.kitTy {K : PySem.W.Frag} {C : Addr} (c : ClsT K C) {T : String} (h : (fastBuiltinMro T).any noRefs = true) : PySem.W.kitOne K (.type T) (.ref C) = some false := by
  unfold PySem.W.kitOne
  rw [if_neg (by show ¬ ((Value.type T == Value.ref C) = true); exact fun q => nomatch (beq_iff_eq.mp q))]
  show (if ((PySem.W.clsIn K C).isSome && PySem.W.typeIn K (.ref C) == some (.type "type")) = true then PySem.W.subIn K (.type T) (.ref C) else none) = some false
  rw [if_pos c.isc]
  exact sub_ty h

/-! ### heaps: all but one address stays -/
/-- what stood at another address than b stands -/
def But (b : Addr) (H H' : Hp) : Prop := ∀ q o, H q = some o → q ≠ b → H' q = some o
theorem But.refl {b : Addr} {H : Hp} : But b H H := fun _ _ h _ => h
theorem But.trans {b : Addr} {H H1 H2 : Hp} (x : But b H H1) (y : But b H1 H2) : But b H H2 := fun q o h n => y q o (x q o h n) n
theorem But.of {b : Addr} {H H' : Hp} (s : Same H H') : But b H H' := fun q o h _ => s q o h
theorem But.upd {b : Addr} {H : Hp} {o : HO} : But b H (upd H b o) := fun q u h n => by rw [upd_ne n]; exact h
theorem But.same {b : Addr} {H H' : Hp} (x : But b H H') (h : H b = none) : Same H H' := fun q o e => x q o e (ne_of_none e h)
theorem But.free {b q : Addr} {H H' : Hp} (x : But b H H') (n : q ≠ b) (h : H' q = none) : H q = none := by
  cases e : H q with
  | none => rfl
  | some o => rw [x q o e n] at h; cases h
theorem But.seq {K : PySem.W.Frag} {b a : Addr} {xs : List V} {H H' : Hp} (x : But b H H') (n : a ≠ b) (h : SqL K H a xs) : SqL K H' a xs := by
  rcases h with (h | ⟨o, h⟩) | h
  · exact .inl (.inl (x _ _ h n))
  · exact .inl (.inr ⟨o, x _ _ h n⟩)
  · exact .inr h
theorem Same.new {H : Hp} {p : Addr} {o : HO} (h : H p = none) : Same H (upd H p o) := fun q u e => by
  rw [upd_ne (ne_of_none e h)]; exact e
/-- a new instance is laid -/
theorem Same.make {H : Hp} {x dx C : Addr} {fs : List (Str × V)} (nx : H x = none) (nd : H dx = none) : Same H (L2.upd (L2.upd H dx (.own x)) x (.ins C dx fs)) := fun b o e => by
  rw [upd_ne (ne_of_none e nx), upd_ne (ne_of_none e nd)]; exact e
theorem two_upd {H : Hp} {a : Addr} {o u : HO} : L2.upd (L2.upd H a o) a u = L2.upd H a u := upd_upd

/-! ### attributes -/
theorem lk0 {f : Str} {v : V} {fs : List (Str × V)} : List.lookup f ((f, v) :: fs) = some v := by
  rw [List.lookup_cons]; simp
theorem lk1 {f g : Str} {v : V} {fs : List (Str × V)} (h : (f == g) = false) : List.lookup f ((g, v) :: fs) = List.lookup f fs := by
  rw [List.lookup_cons, h]
theorem pf0 {f : Str} {v : V} : putF f v [] = [(f, v)] := rfl
theorem pf1 {f g : Str} {v u : V} {fs : List (Str × V)} (h : ¬ g = f) : putF f v ((g, u) :: fs) = (g, u) :: putF f v fs := by
  show (if g = f then (g, v) :: fs else (g, u) :: putF f v fs) = _
  rw [if_neg h]

/-! ### readings by short names -/
abbrev rAddI : R2 := rI0 fun i j => .int (i + j)
abbrev rSubI : R2 := rI0 fun i j => .int (i - j)
abbrev rMulI : R2 := rI CMul fun i j => .int (i * j)
abbrev rFdivI : R2 := rI CDiv fun i j => .int (i / j)
abbrev rModI : R2 := rI (fun _ j => 0 < j) fun i j => .int (i % j)
abbrev rPowI : R2 := rI CPow fun i j => .int (i ^ j.toNat)
abbrev rLtI : R2 := rI0 fun i j => .bl (decide (i < j))
abbrev rLeI : R2 := rI0 fun i j => .bl (decide (i ≤ j))
abbrev rGtI : R2 := rI0 fun i j => .bl (decide (j < i))
abbrev rGeI : R2 := rI0 fun i j => .bl (decide (j ≤ i))
abbrev rNegI : V → Hp → VK → Prop := rU fun i => .int (-i)
abbrev rAddS : R2 := fun x y H Q => ∃ i j, x = .str i ∧ y = .str j ∧ i.length + j.length ≤ sizeLine ∧ Q (.str (i ++ j)) H
abbrev rIsNn : R2 := fun x y H Q => y = .non ∧ Q (.bl (decide (x = .non))) H
abbrev rNotNn : R2 := fun x y H Q => y = .non ∧ Q (.bl (!decide (x = .non))) H
abbrev rLenSq (K : PySem.W.Frag) : List V → Hp → VK → Prop := fun xs H Q => ∃ p ys, xs = [.ref p] ∧ (SqL K H p ys ∨ SqT K H p ys) ∧ Q (.int ys.length) H
abbrev rStrI : List V → Hp → VK → Prop := fun xs H Q => ∃ i, xs = [.int i] ∧ i.natAbs.log2 < 1920 ∧ Q (.str (toString i)) H

/-! ### new objects, by what is true of the heap behind them -/
section
variable {X : Cx} {e : Expr} {es : List Expr} {t t' : TE} {ta : TA} {pos : Pos}
theorem PE.weak (h : PE X e t) (k : ∀ σ H Q, t' σ H Q → t σ H Q) : PE X e t' := ⟨fun pins s σ H Q I q => h.run pins s σ H Q I (k σ H Q q)⟩
def tTupS (t : TA) : TE := fun σ H Q => t σ H fun xs H1 => xs.length ≤ sizeLine ∧ ∀ p H', H1 p = none → Same H1 H' → H' p = some (.tup xs) → Q (.ref p) H'
def tLstS (t : TA) : TE := fun σ H Q => t σ H fun xs H1 => xs.length ≤ sizeLine ∧ ∀ p H', H1 p = none → Same H1 H' → H' p = some (.lst xs) → Q (.ref p) H'
theorem pe_tupS {x1} (h : PA X es ta) : PE X (.Tuple es x1 pos) (tTupS ta) := by
  refine ⟨fun pins s σ H Q I hq => ?_⟩
  refine wpAny_Tuple_spliced (thn (h.run pos pins s σ H _ I hq) fun us s1 ⟨xs, H1, I1, r, z, q⟩ => ⟨by rw [← r.length]; exact z, ?_⟩)
  have hf : H1 s1.heap.objs.size = none := I1.hok.fresh (Nat.le_refl _)
  refine ⟨.ref s1.heap.objs.size, L2.upd H1 s1.heap.objs.size (.tup xs), I1.laid (t' := s1.toks) (fun b u e => Heap.get?_push_of_some _ e) (Nat.le_refl _) ?_, rfl, q _ _ hf (Same.new hf) upd_same⟩
  exact ⟨z, us, r, ⟨_, Heap.get?_push_size _ rfl, rfl, _, rfl⟩⟩
theorem pe_lstS (h : PA X es ta) : PE X (.List es pos) (tLstS ta) := by
  refine ⟨fun pins s σ H Q I hq => ?_⟩
  refine wpAny_List_spliced (thn (h.run pos pins s σ H _ I hq) fun us s1 ⟨xs, H1, I1, r, z, q⟩ => ⟨by rw [← r.length]; exact z, ?_⟩)
  have hf : H1 s1.heap.objs.size = none := I1.hok.fresh (Nat.le_refl _)
  refine ⟨.ref s1.heap.objs.size, L2.upd H1 s1.heap.objs.size (.lst xs), I1.laid (t' := s1.toks) (fun b u e => Heap.get?_push_of_some _ e) (Nat.le_refl _) ?_, rfl, q _ _ hf (Same.new hf) upd_same⟩
  exact ⟨z, us, 0, r, Heap.get?_push_size _ rfl⟩
def rCatS : R2 := fun x y H Q => ∃ l b xs zs, x = .ref l ∧ y = .ref b ∧ H l = some (.lst xs) ∧ H b = some (.lst zs) ∧ xs.length + zs.length ≤ sizeLine ∧ ∀ p H', H p = none → Same H H' → H' p = some (.lst (xs ++ zs)) → Q (.ref p) H'
theorem op_catS : OpR X (binaryOp .Add) rCatS := by
  intro pins s σ H x y v u Q I rx ry h
  obtain ⟨l, b, xs, zs, h1, h2, h3, h4, h5, h6⟩ := h
  exact op_cat pins s σ H x y v u Q I rx ry ⟨l, b, xs, zs, h1, h2, h3, h4, h5, fun p hp => h6 p _ hp (Same.new hp) upd_same⟩
def rSlLS (K : PySem.W.Frag) : V → Option Int → Option Int → Hp → VK → Prop := fun x lo hi H Q => ∃ a xs, x = .ref a ∧ SqL K H a xs ∧ ∀ p H', H p = none → Same H H' → H' p = some (.lst (cutV xs lo hi)) → Q (.ref p) H'
theorem sl_listS : SlR X (rSlLS X.K) := by
  intro pins s σ H x v vl vu lo hi sl Q I rx hs pl pu h
  obtain ⟨a, xs, h1, h2, h3⟩ := h
  exact sl_list pins s σ H x v vl vu lo hi sl Q I rx hs pl pu ⟨a, xs, h1, h2, fun p hp => h3 p _ hp (Same.new hp) upd_same⟩
def rListOfS (K : PySem.W.Frag) : List V → Hp → VK → Prop := fun xs H Q => ∃ p ys, xs = [.ref p] ∧ (SqL K H p ys ∨ SqT K H p ys) ∧ ∀ l H', H l = none → Same H H' → H' l = some (.lst ys) → Q (.ref l) H'
theorem call_list_ofS : CallR X (.type "list") (rListOfS X.K) := by
  intro pins s σ H xs us Q I r h
  obtain ⟨p, ys, h1, h2, h3⟩ := h
  exact call_list_of pins s σ H xs us Q I r ⟨p, ys, h1, h2, fun l hl => h3 l _ hl (Same.new hl) upd_same⟩
end
/-- a new object at x, whatever its attributes: what stood before stands -/
theorem made_same {H H' : Hp} {x dx C : Addr} {fs : List (Str × V)} (nx : H x = none) (nd : H dx = none) (b : But x (L2.upd (L2.upd H dx (.own x)) x (.ins C dx fs)) H') : Same H H' := fun q o e =>
  b q o (by rw [upd_ne (ne_of_none e nx), upd_ne (ne_of_none e nd)]; exact e) (ne_of_none e nx)
end Lf

set_option Elab.async false
set_option linter.all false
set_option maxRecDepth 100000
set_option maxHeartbeats 4000000
/-! len, in, subscripts and slices by own methods; count of tuples. -/
namespace Lf
open PySem PySem.Spec PyProof.Rows L2
section
variable {X : Cx} {CX : CXT} {pins : List (Addr × Obj)} {σ : L2.St} {H : Hp} {s : Shared} {C g : Addr} {n : Nat} {sp : Sp} {E : XK}
/-- len(x) by an own __len__ -/
def rLenOwn (C : Addr) (sp : Sp) (E : XK) : List V → Hp → VK → Prop := fun xs H Q => ∃ (a dx : Addr) (fs : List (Str × V)), xs = [V.ref a] ∧ H a = some (.ins C dx fs) ∧ sp [.ref a] H (fun z H' => ∃ i : Int, z = .int i ∧ 0 ≤ i ∧ i < 2 ^ 63 ∧ Q z H') E
theorem call_lenOwn (hs : PySem.W.findIn X.K (.ref C) "__len__" = some (some (.ref g))) (hf : PySem.W.isFn X.K (.ref g) = true) (F : FnR X.prog X.w X.K X.mg X.base CX n g sp) (hr : Room (n + 1) X.A) (hx : Passes CX X E) :
    CallR X (.builtin "len") (rLenOwn C sp E) := by
  intro pins s σ H xs us Q I r h
  obtain ⟨a, dx, fs, rfl, ha, q⟩ := h
  obtain ⟨u, rfl, ru⟩ := vals1 r
  cases (show u = Value.ref a from ru)
  obtain ⟨mA, O, _⟩ := ins_get I.hok ha
  obtain ⟨od, J, _⟩ := O.look
  obtain ⟨m, hF⟩ := I.fr
  refine PySem.W.len_K hF I.ok.mod.kin J hs hf (wpAny_mono (wpAny_call (run_atR (us := [.ref a]) (ws := [.ref a]) F hr.in1 I.env0.in1 hx I (.cons rfl .nil) q)) (fun w s' z => ?_) fun _ _ x => x)
  obtain ⟨z', H', I', rz, i, ei, i0, i1, qz⟩ := z
  subst ei
  obtain ⟨t, e⟩ := (show ∃ t, w = Value.int i t from rz)
  cases e
  exact ⟨⟨i0, i1⟩, .int i, H', I'.tok _, ⟨_, rfl⟩, qz⟩
/-- v in x by an own __contains__ that answers a bool -/
def rInOwn (C : Addr) (sp : Sp) (E : XK) (neg : Bool) : R2 := fun x y H Q => ∃ (a dx : Addr) (fs : List (Str × V)), y = .ref a ∧ H a = some (.ins C dx fs) ∧ sp [y, x] H (fun z H' => ∃ b, z = .bl b ∧ Q (.bl (if neg then !b else b)) H') E
theorem op_inOwn (hs : PySem.W.findIn X.K (.ref C) "__contains__" = some (some (.ref g))) (hf : PySem.W.isFn X.K (.ref g) = true) (F : FnR X.prog X.w X.K X.mg X.base CX n g sp) (hr : Room n X.A) (hx : Passes CX X E) :
    OpR X (compareOp .In) (rInOwn C sp E false) := by
  intro pins s σ H x y v u Q I rx ry h
  obtain ⟨a, dx, fs, rfl, ha, q⟩ := h
  cases (show u = Value.ref a from ry)
  obtain ⟨mA, O, _⟩ := ins_get I.hok ha
  obtain ⟨od, J, _⟩ := O.look
  obtain ⟨m, hF⟩ := I.fr
  refine PySem.W.in_K hF I.ok.mod.kin J hs hf (wpAny_mono (wpAny_call (run_fnR (us := [.ref a, v]) (vs := [.ref a, x]) F hr hx I (.cons rfl (.cons rx .nil)) q)) (fun w s' z => ?_) fun _ _ x => x)
  obtain ⟨z', H', I', rz, b, eb, qz⟩ := z
  subst eb
  cases (show w = Value.bool b from rz)
  exact wpAny_truthy_bool ⟨.bl b, H', I', rfl, qz⟩
theorem op_notInOwn (hs : PySem.W.findIn X.K (.ref C) "__contains__" = some (some (.ref g))) (hf : PySem.W.isFn X.K (.ref g) = true) (F : FnR X.prog X.w X.K X.mg X.base CX n g sp) (hr : Room n X.A) (hx : Passes CX X E) :
    OpR X (compareOp .NotIn) (rInOwn C sp E true) := by
  intro pins s σ H x y v u Q I rx ry h
  obtain ⟨a, dx, fs, rfl, ha, q⟩ := h
  cases (show u = Value.ref a from ry)
  obtain ⟨mA, O, _⟩ := ins_get I.hok ha
  obtain ⟨od, J, _⟩ := O.look
  obtain ⟨m, hF⟩ := I.fr
  refine PySem.W.notIn_K hF I.ok.mod.kin J hs hf (wpAny_mono (wpAny_call (run_fnR (us := [.ref a, v]) (vs := [.ref a, x]) F hr hx I (.cons rfl (.cons rx .nil)) q)) (fun w s' z => ?_) fun _ _ x => x)
  obtain ⟨z', H', I', rz, b, eb, qz⟩ := z
  subst eb
  cases (show w = Value.bool b from rz)
  exact wpAny_truthy_bool ⟨.bl (!b), H', I', rfl, qz⟩
/-! ### subscripts -/
/-- x[i] by an own __getitem__ -/
def rIxOwn (C : Addr) (sp : Sp) (E : XK) : R2 := fun x y H Q => ∃ (a dx : Addr) (fs : List (Str × V)), x = .ref a ∧ H a = some (.ins C dx fs) ∧ sp [x, y] H Q E
theorem pe_ixOwn {a b : Expr} {ta tb : TE} {pos : Pos} (hs : PySem.W.findIn X.K (.ref C) "__getitem__" = some (some (.ref g))) (hfi : PySem.W.fnIn X.K g = true) (hf : PySem.W.isFn X.K (.ref g) = true)
    (F : FnR X.prog X.w X.K X.mg X.base CX n g sp) (hr : Room (n + 1) X.A) (hx : Passes CX X E) (ha : PE X a ta) (hb : PE X b tb)
    (hsl : ∀ (x : Addr) (i : Value), subscripted b true (.ref x) i = runValue (.builtin "lifetime.subscript" ⟨[.ref x, i], []⟩)) : PE X (.Subscript a b pos) (tOp (rIxOwn C sp E) ta tb) := by
  refine ⟨fun pins s σ H Q I h => ?_⟩
  refine Subscript_ (binT ha hb I h fun v u s2 x y H2 I2 rx ry q => ?_)
  obtain ⟨p, dx, fs, rfl, hp, q⟩ := q
  cases (show v = Value.ref p from rx)
  obtain ⟨mA, O, _⟩ := ins_get I2.hok hp
  obtain ⟨od, J, _⟩ := O.look
  obtain ⟨m, hF⟩ := I2.fr
  exact PySem.W.sub_K hF I2.ok.mod.kin J hs hfi hf (wpAny_mono (wpAny_call (run_atR (us := [.ref p, u]) (ws := [.ref p, y]) F hr.in1 I2.env0.in1 hx I2 (.cons rfl (.cons ry .nil)) q)) (fun _ _ z => z) fun _ _ x => x) (hsl p u)
/-- a slice object -/
def SliceO (sl : Addr) (lo hi : Option Int) : HO := .ext fun h => ∃ vl vu, h.IsSliceOf sl vl vu .none ∧ IsPart vl lo ∧ IsPart vu hi
def tSlOwn (C : Addr) (sp : Sp) (E : XK) (te : TE) (tl th : TO) : TE := fun σ H Q => te σ H fun x H1 => tl σ H1 fun l H2 => th σ H2 fun u H3 => ∃ (a dx : Addr) (fs : List (Str × V)), x = .ref a ∧ H3 a = some (.ins C dx fs) ∧
  ∀ p H', H3 p = none → Same H3 H' → H' p = some (SliceO p l u) → sp [x, .ref p] H' Q E
theorem sub_sliceK {prog : Program} {w : World} {A : Around} {E : Value → Shared → Prop} {s : Shared} {K : PySem.W.Frag} {x C L f : Addr} {h₀ : Heap} {m : Str → Option Value} {ox : Obj} {od : Option Obj} {value : Expr} {lo hi : Option Expr} {p2 : Pos} {i : Value} {Q : Value → Shared → Prop} (F : Fr h₀ L s.heap m) (X₀ : K.In h₀) (I : PySem.W.InstAt s.heap x ox C od)
    (hq : PySem.W.noSeq K C = true) (hs : PySem.W.findIn K (.ref C) "__getitem__" = some (some (.ref f))) (hf : PySem.W.fnIn K f = true) (hfn : PySem.W.isFn K (.ref f) = true)
    (h : wpAny (model prog w) A (call (.ref f) [.ref x, i]) Q E s) : wpAny (model prog w) A (subscriptTail value (.Slice lo hi none p2) (.ref x) i) Q E s := by
  have X := X₀.keeps F.keep
  unfold PySem.W.fnIn at hf
  split at hf
  · rename_i e
    unfold subscriptTail getitemInPython
    refine wpAny_bind (wpAny_bind (wpAny_bind (I.type.here ((PySem.W.looks_findIn X hs).here ?_))))
    dsimp only
    refine wpAny_bind (wpAny_load (X _ _ e) (wpAny_pure ?_))
    dsimp only
    show wpAny (model prog w) A (operate [i, .ref x] (getItem (.ref x) i) >>= _) Q E s
    refine wpAny_bind (wpAny_operateT (PySem.W.getItem_K F X₀ I hq hs hfn (wpAny_mono h (fun v s' z => ?_) fun _ _ z => z)))
    exact wpAny_bind (wpAny_letTemporaryGo (wpAny_pure z))
  · cases hf
theorem pe_sliceOwn {e : Expr} {te : TE} {lo hi : Option Expr} {tl th : TO} {pos p2 : Pos} (hq : PySem.W.noSeq X.K C = true) (hs : PySem.W.findIn X.K (.ref C) "__getitem__" = some (some (.ref g))) (hfi : PySem.W.fnIn X.K g = true) (hf : PySem.W.isFn X.K (.ref g) = true)
    (F : FnR X.prog X.w X.K X.mg X.base CX n g sp) (hr : Room n X.A) (hx : Passes CX X E) (he : PE X e te) (hl : PO X lo tl) (hu : PO X hi th) :
    PE X (.Subscript e (.Slice lo hi none p2) pos) (tSlOwn C sp E te tl th) := by
  refine ⟨fun pins s σ H Q I h => ?_⟩
  refine Subscript_ (thn (he.run pins s σ H _ I h) fun v s1 ⟨x, H1, I1, r1, q1⟩ => ?_)
  refine wpAny_Slice (thn (hl.run pins s1 σ H1 _ I1 q1) fun vl s2 ⟨l, H2, I2, pl, q2⟩ => thn (hu.run pins s2 σ H2 _ I2 q2) fun vu s3 ⟨u, H3, I3, pu, q3⟩ => ?_)
  rw [evalPart_none]
  refine wpAny_pure ?_
  have hn : H3 s3.heap.objs.size = none := I3.hok.fresh (Nat.le_refl _)
  have kp : ∀ b ob, s3.heap.get? b = some ob → (s3.heap.push { cls := .type "slice", data := .fields #[vl, vu, .none] }).get? b = some ob := fun b ob q => Heap.get?_push_of_some _ q
  have new : ObjOk X.prog X.w (L2.upd H3 s3.heap.objs.size (SliceO s3.heap.objs.size l u)) (s3.heap.push { cls := .type "slice", data := .fields #[vl, vu, .none] }) s3.heap.objs.size (SliceO s3.heap.objs.size l u) := by
    refine ⟨⟨vl, vu, Heap.IsSliceOf.new .., pl, pu⟩, ⟨_, Heap.get?_push_size _ rfl⟩, fun h1 h2 z k => ?_⟩
    obtain ⟨a1, a2, ⟨o, z1, z2⟩, z3⟩ := z
    exact ⟨a1, a2, ⟨o, k o z1, z2⟩, z3⟩
  have I4 := I3.laid (t' := s3.toks) kp (Nat.le_refl _) new
  obtain ⟨p, dx, fs, rfl, hp, q⟩ := q3
  cases (show v = Value.ref p from r1)
  have hp4 := Same.new (o := SliceO s3.heap.objs.size l u) hn p _ hp
  obtain ⟨mA, O, _⟩ := ins_get I4.hok hp4
  obtain ⟨od, J, _⟩ := O.look
  obtain ⟨m, hF⟩ := I4.fr
  show wpAny (model X.prog X.w) X.A (subscriptTail e (.Slice lo hi none p2) (.ref p) (.ref s3.heap.objs.size)) (EP X pins σ Q) X.xe { s3 with heap := s3.heap.push { cls := .type "slice", data := .fields #[vl, vu, .none] } }
  refine sub_sliceK hF I4.ok.mod.kin J hq hs hfi hf ?_
  exact wpAny_mono (wpAny_call (run_fnR (us := [.ref p, .ref s3.heap.objs.size]) (vs := [.ref p, .ref s3.heap.objs.size]) F hr hx I4 (.cons rfl (.cons rfl .nil)) (q _ _ hn (Same.new hn) upd_same))) (fun _ _ z => z) fun _ _ x => x
/-- t[i], t a tuple, i an int or a slice object -/
def rIxTS (K : PySem.W.Frag) : R2 := fun x y H Q => rIxT K x y H Q ∨ ∃ (sl : Addr) (lo hi : Option Int), y = .ref sl ∧ H sl = some (SliceO sl lo hi) ∧ rSlA K x lo hi H Q
theorem ix_tupS : IxR X (rIxTS X.K) := by
  intro value slice pins s σ H x y v u Q I rx ry h hs
  rcases h with h | ⟨sl, lo, hi, rfl, hsl, q⟩
  · exact ix_tup value slice pins s σ H x y v u Q I rx ry h hs
  · cases (show u = Value.ref sl from ry)
    obtain ⟨⟨vl, vu, z1, z2, z3⟩, _⟩ := (show ObjOk X.prog X.w H s.heap sl (SliceO sl lo hi) from I.hok sl _ hsl)
    obtain ⟨T, id, hT, ht, hg⟩ := sl_tupA pins s σ H x v vl vu lo hi sl Q I rx z1 z2 z3 q
    exact tail_any (ops := [v, .ref sl]) ht hT hg hs
/-! ### tuples of which the object is known: their methods -/
/-- a tuple of xs at a, of the built-in class itself -/
def TupD (H : Hp) (a : Addr) (xs : List V) : Prop := ∃ o : Obj, H a = some (.frz o (.tup xs)) ∧ o.dict = none ∧ o.cls = .type "tuple"
theorem TupD.keep {H H' : Hp} {a : Addr} {xs : List V} (h : TupD H a xs) (s : Same H H') : TupD H' a xs := by
  obtain ⟨o, h1, h2⟩ := h
  exact ⟨o, s _ _ h1, h2⟩
theorem TupD.but {H H' : Hp} {a b : Addr} {xs : List V} (h : TupD H a xs) (s : But b H H') (n : a ≠ b) : TupD H' a xs := by
  obtain ⟨o, h1, h2⟩ := h
  exact ⟨o, s _ _ h1 n, h2⟩
theorem TupD.ne {H : Hp} {a b : Addr} {xs : List V} (h : TupD H a xs) (n : H b = none) : a ≠ b := by
  obtain ⟨o, h1, h2⟩ := h
  exact ne_of_none h1 n
theorem TupD.seq {K : PySem.W.Frag} {H : Hp} {a : Addr} {xs : List V} (h : TupD H a xs) : SqT K H a xs := by
  obtain ⟨o, h1, _⟩ := h
  exact .inl (.inr ⟨o, h1⟩)
theorem TupD.ty {K : PySem.W.Frag} {H : Hp} {a : Addr} {xs : List V} (h : TupD H a xs) : TyX K H (.ref a) (.type "tuple") := by
  obtain ⟨o, h1, _⟩ := h
  exact .fTuple h1
/-- tuple(list): a new one, known -/
def rTupleD (K : PySem.W.Frag) : List V → Hp → VK → Prop := fun xs H Q => ∃ p ys, xs = [.ref p] ∧ SqL K H p ys ∧ ∀ l H', H l = none → Same H H' → TupD H' l ys → Q (.ref l) H'
theorem call_tupleD : CallR X (.type "tuple") (rTupleD X.K) := by
  intro pins s σ H xs us Q I r h
  obtain ⟨p, ys, rfl, hq, q⟩ := h
  obtain ⟨u, rfl, rx⟩ := vals1 r
  cases rx
  obtain ⟨its, r', pl, hz⟩ := I.list hq
  have hlen := r'.length
  refine call_tuple_list pl.isList (fun h' kp => ?_) (by simp only [List.size_toArray] <;> omega)
  have I1 : L2.Inv X pins σ H { s with heap := h' } := I.kept (t' := s.toks) kp
  have hn := I1.hok.fresh (Nat.le_refl h'.objs.size)
  have I2 : L2.Inv X pins σ (L2.upd H h'.objs.size (.frz { cls := .type "tuple", data := .seq its.toArray } (.tup ys))) { s with heap := h'.push { cls := .type "tuple", data := .seq its.toArray } } :=
    I1.laid (t' := s.toks) (fun b o e => Heap.get?_push_of_some _ e) (Nat.le_refl _) (show ObjOk X.prog X.w _ _ _ (.frz _ (.tup ys)) from ⟨Heap.get?_push_size _ rfl, hz, its, r', IsTup.new _ _⟩)
  exact ⟨.ref h'.objs.size, _, I2, rfl, q _ _ hn (Same.new hn) ⟨_, upd_same, rfl, rfl⟩⟩
/-- a method of such a tuple -/
def tBMT (r : V → List V → Hp → VK → Prop) (to : TE) (t : TA) : TE := fun σ H Q => to σ H fun x H1 => (∃ p xs, x = .ref p ∧ TupD H1 p xs) ∧ t σ H1 fun xs H2 => r x xs H2 Q
theorem pe_bmT {o e : Expr} {es : List Expr} {to : TE} {t : TA} {name : Str} {apos cpos : Pos} {id : String} {r : V → List V → Hp → VK → Prop} (pa : PlainAttrs "tuple") (slot : Slot "tuple" name id) (hty : typeOf (.builtin id) = pure (.type "method_descriptor")) (hm : MtR X id r) (ho : PE X o to) (ha : PA X (e :: es) t)
    (hbase : attributeBase o name X.env (eval o X.env) = eval o X.env := by rfl)
    (hfew : ((backTo cpos (starEach (e :: es) X.env)).all (fun x => !x.1) && (backToKw cpos (keywordEach [] X.env)).all (fun x => x.1.isSome)
      && decide ((e :: es).length + ([] : List Keyword).length + (if ([] : List Keyword).isEmpty then 0 else 1) < 30)) = true := by rfl)
    (hline : (apos.endLine == cpos.line) = true := by rfl) (hs : starEach (e :: es) X.env = (false, eval e X.env) :: starEach es X.env := by rfl) (hplain : (backTo cpos (starEach es X.env)).any (·.1) = false := by rfl) :
    PE X (.Call (.Attribute o name apos) (e :: es) [] cpos) (tBMT r to t) := by
  refine ⟨fun pins s σ H Q I h => ?_⟩
  refine wpAny_Call_method_late hbase hfew hline rfl (thn (ho.run pins s σ H _ I h) fun v s1 ⟨x, H1, I1, r1, ty, q1⟩ => ?_)
  obtain ⟨p, xs, rfl, ob, hp, hd, hc⟩ := ty
  cases (show v = Value.ref p from r1)
  obtain ⟨hg, _⟩ := (show ObjOk X.prog X.w H1 s1.heap p (.frz ob (.tup xs)) from I1.hok p _ hp)
  refine ⟨"tuple", id, pa, slot, hty, ⟨ob, hg, hc⟩, fun b eb => by cases eb; exact ⟨ob, hg, hd⟩, ?_⟩
  have hA := ha.run cpos pins s1 σ H1 _ I1 q1
  rw [hs] at hA ⊢
  refine Calls.callWith_builtin (by show (false || (backTo cpos (starEach es X.env)).any (·.1)) = false; rw [hplain] <;> rfl) (Calls.evalArgs_plain ?_)
  exact thn hA fun us s2 ⟨vs, H2, I2, r2, q2⟩ => hm pins s2 σ H2 (.ref p) vs (.ref p) us Q I2 rfl r2 q2
def rCntT (K : PySem.W.Frag) : V → List V → Hp → VK → Prop := fun x xs H Q => ∃ (p : Addr) (ns : List Int) (k : Int), x = .ref p ∧ xs = [.int k] ∧ SqT K H p (ns.map V.int) ∧ Q (.int (ns.count k : Nat)) H
theorem mt_tcount : MtR X "tuple.count" (rCntT X.K) := by
  intro pins s σ H x xs v us Q I rx rxs h
  obtain ⟨p, ns, k, rfl, rfl, hs, q⟩ := h
  cases rx
  obtain ⟨u, rfl, ru⟩ := vals1 rxs
  obtain ⟨t, rfl⟩ := ru
  obtain ⟨its, rv, ⟨⟨cls, dd, data, sl⟩, ho, hc, n, hd⟩, hlen⟩ := I.tuple hs
  simp only at hc hd
  subst hc hd
  have hi := ints_of_vals rv
  refine call_meets PySem.F.slot_tuple_count ⟨_, ho, rfl⟩ PySem.F.entry_tuple_count (PySem.F.args_tuple_count_2 _ _)
    (SeqAt.tuple_countAt p its.toArray n dd sl (.int k t) (eqk k)) ⟨ho, fun y hy => (eqk_gives hi y (by simpa using hy)).at _ _, ?_⟩
  have ec : its.toArray.toList.countP (eqk k) = ns.count k := eqk_count hi
  refine ⟨.int (ns.count k : Nat), H, I.tok _, ⟨s.toks, ?_⟩, q⟩
  show Value.int ((its.toArray.toList.countP (eqk k) : Nat) : Int) s.toks = Value.int ((ns.count k : Nat) : Int) s.toks
  rw [ec]
end
/-! ### data: lists and tuples of ints compared -/
theorem dp_ints {K : PySem.W.Frag} {H : Hp} : ∀ ns : List Int, DpAll K H (ns.map V.int) (ns.map PyData.int)
  | [] => .nil
  | n :: ns => .cons (.int n) (dp_ints ns)
theorem eqv_ints : ∀ ns ms : List Int, PyData.eqvAll (ns.map PyData.int) (ms.map PyData.int) = decide (ns = ms)
  | [], [] => rfl
  | [], m :: ms => by rw [decide_eq_false (by simp)]; rfl
  | n :: ns, [] => by rw [decide_eq_false (by simp)]; rfl
  | n :: ns, m :: ms => by
    show (n == m && PyData.eqvAll (ns.map PyData.int) (ms.map PyData.int)) = decide (n :: ns = m :: ms)
    rw [eqv_ints ns ms]
    by_cases h1 : n = m
    · by_cases h2 : ns = ms
      · rw [h1, h2]; simp
      · rw [h1]; simp [h2]
    · simp [h1]
theorem lay_ints : ∀ ns : List Int, PyData.canLayAll0 (ns.map PyData.int) = true
  | [] => by simp only [List.map_nil, PyData.canLayAll0]
  | n :: ns => by simp only [List.map_cons, PyData.canLayAll0, PyData.canLay0, lay_ints ns, Bool.and_self]
theorem deep_ints : ∀ ns : List Int, PyData.depthAll (ns.map PyData.int) = 0
  | [] => by simp only [List.map_nil, PyData.depthAll]
  | n :: ns => by simp only [List.map_cons, PyData.depthAll, PyData.depth, deep_ints ns, Nat.max_self]
theorem shaped_intsL (ns : List Int) : SeqAt.shaped (.list (ns.map PyData.int)) = true := by
  unfold SeqAt.shaped
  simp only [PyData.canLay0, lay_ints, PyData.depth, deep_ints]
  decide
theorem shaped_intsT (ns : List Int) : SeqAt.shaped (.tuple (ns.map PyData.int)) = true := by
  unfold SeqAt.shaped
  simp only [PyData.canLay0, lay_ints, PyData.depth, deep_ints]
  decide
section
variable {X : Cx}
def rEqIL (K : PySem.W.Frag) : R2 := fun x y H Q => ∃ (p q : Addr) (ns ms : List Int), x = .ref p ∧ y = .ref q ∧ SqL K H p (ns.map V.int) ∧ SqL K H q (ms.map V.int) ∧ Q (.bl (decide (ns = ms))) H
def rNeIL (K : PySem.W.Frag) : R2 := fun x y H Q => ∃ (p q : Addr) (ns ms : List Int), x = .ref p ∧ y = .ref q ∧ SqL K H p (ns.map V.int) ∧ SqL K H q (ms.map V.int) ∧ Q (.bl (!decide (ns = ms))) H
def rEqIT (K : PySem.W.Frag) : R2 := fun x y H Q => ∃ (p q : Addr) (ns ms : List Int), x = .ref p ∧ y = .ref q ∧ SqT K H p (ns.map V.int) ∧ SqT K H q (ms.map V.int) ∧ Q (.bl (decide (ns = ms))) H
def rNeIT (K : PySem.W.Frag) : R2 := fun x y H Q => ∃ (p q : Addr) (ns ms : List Int), x = .ref p ∧ y = .ref q ∧ SqT K H p (ns.map V.int) ∧ SqT K H q (ms.map V.int) ∧ Q (.bl (!decide (ns = ms))) H
theorem op_eqIL (hu : X.A.units + 64 < cLine) : OpR X (compareOp .Eq) (rEqIL X.K) := by
  intro pins s σ H x y v u Q I rx ry h
  obtain ⟨p, q, ns, ms, rfl, rfl, h1, h2, h3⟩ := h
  refine op_eqD hu pins s σ H _ _ v u Q I rx ry ⟨_, _, .lst h1 (dp_ints ns), .lst h2 (dp_ints ms), shaped_intsL ns, shaped_intsL ms, ?_⟩
  show Q (.bl (PyData.eqvAll (ns.map PyData.int) (ms.map PyData.int))) H
  rw [eqv_ints]
  exact h3
theorem op_neIL (hu : X.A.units + 64 < cLine) : OpR X (compareOp .NotEq) (rNeIL X.K) := by
  intro pins s σ H x y v u Q I rx ry h
  obtain ⟨p, q, ns, ms, rfl, rfl, h1, h2, h3⟩ := h
  refine op_neD hu pins s σ H _ _ v u Q I rx ry ⟨_, _, .lst h1 (dp_ints ns), .lst h2 (dp_ints ms), shaped_intsL ns, shaped_intsL ms, ?_⟩
  show Q (.bl (!PyData.eqvAll (ns.map PyData.int) (ms.map PyData.int))) H
  rw [eqv_ints]
  exact h3
theorem op_eqIT (hu : X.A.units + 64 < cLine) : OpR X (compareOp .Eq) (rEqIT X.K) := by
  intro pins s σ H x y v u Q I rx ry h
  obtain ⟨p, q, ns, ms, rfl, rfl, h1, h2, h3⟩ := h
  refine op_eqD hu pins s σ H _ _ v u Q I rx ry ⟨_, _, .tup h1 (dp_ints ns), .tup h2 (dp_ints ms), shaped_intsT ns, shaped_intsT ms, ?_⟩
  show Q (.bl (PyData.eqvAll (ns.map PyData.int) (ms.map PyData.int))) H
  rw [eqv_ints]
  exact h3
theorem op_neIT (hu : X.A.units + 64 < cLine) : OpR X (compareOp .NotEq) (rNeIT X.K) := by
  intro pins s σ H x y v u Q I rx ry h
  obtain ⟨p, q, ns, ms, rfl, rfl, h1, h2, h3⟩ := h
  refine op_neD hu pins s σ H _ _ v u Q I rx ry ⟨_, _, .tup h1 (dp_ints ns), .tup h2 (dp_ints ms), shaped_intsT ns, shaped_intsT ms, ?_⟩
  show Q (.bl (!PyData.eqvAll (ns.map PyData.int) (ms.map PyData.int))) H
  rw [eqv_ints]
  exact h3
end

section
variable {X : Cx}
def rRepS : R2 := fun x y H Q => ∃ l k xs, x = .ref l ∧ y = .int k ∧ H l = some (.lst xs) ∧ -(2 ^ 63) ≤ k ∧ k < 2 ^ 63 ∧ xs.length * k.toNat ≤ sizeLine ∧
  ∀ p H', H p = none → Same H H' → H' p = some (.lst (List.replicate k.toNat xs).flatten) → Q (.ref p) H'
theorem op_repS : OpR X (binaryOp .Mult) rRepS := by
  intro pins s σ H x y v u Q I rx ry h
  obtain ⟨l, k, xs, h1, h2, h3, h4, h5, h6, h7⟩ := h
  exact op_rep pins s σ H x y v u Q I rx ry ⟨l, k, xs, h1, h2, h3, h4, h5, h6, fun p hp => h7 p _ hp (Same.new hp) upd_same⟩
end
theorem flat1 {α : Type} (x : α) : ∀ n : Nat, (List.replicate n [x]).flatten = List.replicate n x
  | 0 => rfl
  | n + 1 => by rw [List.replicate_succ, List.flatten_cons, flat1 x n, List.replicate_succ]; rfl
def tLstRgS (te : L2.St → Hp → (Int → Int → Hp → Prop) → Prop) : TE := fun σ H Q => te σ H fun a b H1 => RgOk a b ∧ ∀ q H', H1 q = none → Same H1 H' → H' q = some (.lst (rgV a b)) → Q (.ref q) H'
/-- is_integer's answer -/
def isIntV : V → Bool
  | .int _ => true
  | _ => false
/-- the attributes of a new object: what an __init__ leaves -/
theorem sz_of {n : Nat} (h : n ≤ 100000) : n ≤ sizeLine := Nat.le_trans h (by decide)
theorem sz_lt {n : Nat} (h : n < 100000) : n < sizeLine := Nat.lt_of_lt_of_le h (by decide)

theorem atI_some {α : Type} {rs : List α} {i : Int} (h1 : -(rs.length : Int) ≤ i) (h2 : i < rs.length) : ∃ v, v ∈ rs ∧ atI rs i = some v := by
  unfold atI ixN
  by_cases h0 : 0 ≤ i
  · rw [if_pos h0, if_pos h2]
    have hj : i.toNat < rs.length := by omega
    exact ⟨rs[i.toNat], List.getElem_mem hj, by show rs[i.toNat]? = _; exact List.getElem?_eq_getElem hj⟩
  · rw [if_neg h0, if_pos h1]
    have hj : ((rs.length : Int) + i).toNat < rs.length := by omega
    refine ⟨rs[((rs.length : Int) + i).toNat], List.getElem_mem hj, ?_⟩
    first
      | exact List.getElem?_eq_getElem hj
      | (show rs[(i + rs.length).toNat]? = _; rw [Int.add_comm]; exact List.getElem?_eq_getElem hj)
theorem cutV_tail (x : V) (xs : List V) : cutV (x :: xs) (some 1) none = xs := by
  unfold cutV
  have e : HT.sIx (x :: xs).length 0 (some 1) = 1 := by
    unfold HT.sIx
    simp
  have e2 : HT.sIx (x :: xs).length (x :: xs).length none = (x :: xs).length := rfl
  rw [e, e2, List.drop_one, List.tail_cons, List.length_cons, Nat.add_sub_cancel, List.take_length]
/-- a rule's own words: the promise of a def without defaults -/
abbrev rawS (sp : Sp) : Sp := fun vs H Q E => sp (vs ++ []) H Q E
end Lf

set_option Elab.async false
set_option linter.all false
set_option maxRecDepth 100000
set_option maxHeartbeats 4000000
/-! Comprehensions over a tuple or a list that only add objects: each item told by a function. -/
namespace Lf
open PySem PySem.Spec PyProof.Rows L2
/-- what one turn does: F tells what is added, if anything -/
def Turn1 (g : TG) (tt : TT) (te : TE) (vs : List Nat) (σ : L2.St) (H1 : Hp) (x : V) (r : Option V) : Prop :=
  ∀ (H' : Hp) (N : Option V → Hp → Prop), Same H1 H' → (∀ H4, Same H' H4 → N r H4) →
    g x (wipe σ vs) H' fun σ2 H2 => wipe σ2 vs = wipe σ vs ∧ tt σ2 H2 fun b H3 => if b = true then te σ2 H3 fun y H4 => N (some y) H4 else N none H3
theorem lc_tupF {K : PySem.W.Frag} {a : Addr} {xs : List V} {g : TG} {tt : TT} {te : TE} {vs : List Nat} {σ : L2.St} {H1 : Hp} {D : Addr} {Qd : Hp → Prop} (F : V → Option V) (nD : H1 D = none) (hz : xs.length < 100000)
    (hl : ∀ H', Same H1 H' → SqT K H' a xs) (hs : ∀ x ∈ xs, Turn1 g tt te vs σ H1 x (F x)) (hd : ∀ H', Same H1 H' → H' D = some (.lst (xs.filterMap F)) → Qd H') :
    ∃ W : Nat → Nat → Hp → Prop, (∃ m, W 0 m (upd H1 D (.lst []))) ∧ ∀ i m H, W i m H →
      ((Itt K a).stop i H ∧ Qd H) ∨ ((Itt K a).go i H ∧ ∃ Nx : Hp → Prop, (∀ H', Nx H' → ∃ m', m' < m ∧ W (i + 1) m' H') ∧ ∀ x H', (Itt K a).yld i H x H' → g x (wipe σ vs) H' fun σ2 H2 => wipe σ2 vs = wipe σ vs ∧ tt σ2 H2 fun b H3 =>
        if b = true then te σ2 H3 fun y H4 => ∃ acc, H4 D = some (.lst acc) ∧ acc.length < sizeLine ∧ Nx (upd H4 D (.lst (acc ++ [y]))) else Nx H3) := by
  refine lc_tup (K := K) (a := a) (xs := xs) (fun i H' => Same H1 H' ∧ H' D = some (.lst ((xs.take i).filterMap F))) ⟨Same.new nD, upd_same⟩ (fun i H' _ z => hl H' z.1) ?_ ?_
  · rintro i x H' hx ⟨s1, hD⟩
    have tk : (xs.take (i + 1)).filterMap F = (xs.take i).filterMap F ++ (F x).toList := by
      rw [List.take_add_one, hx, Option.toList_some, List.filterMap_append]
      cases e : F x <;> simp [e]
    have z := hs x (List.mem_of_getElem? hx) H' (fun r H4 => match r with
      | some y => ∃ acc, H4 D = some (.lst acc) ∧ acc.length < sizeLine ∧ (Same H1 (upd H4 D (.lst (acc ++ [y]))) ∧ upd H4 D (.lst (acc ++ [y])) D = some (.lst ((xs.take (i + 1)).filterMap F)))
      | none => Same H1 H4 ∧ H4 D = some (.lst ((xs.take (i + 1)).filterMap F))) s1 fun H4 s4 => ?_
    · exact z
    · cases e : F x with
      | none =>
        rw [e] at tk
        refine ⟨s1.trans s4, ?_⟩
        rw [tk, Option.toList_none, List.append_nil]
        exact s4 _ _ hD
      | some y =>
        rw [e] at tk
        refine ⟨_, s4 _ _ hD, ?_, fun q o h => ?_, ?_⟩
        · refine Nat.lt_of_lt_of_le ?_ (show 100000 ≤ sizeLine by decide)
          refine Nat.lt_of_le_of_lt (List.length_filterMap_le ..) (Nat.lt_of_le_of_lt ?_ hz)
          rw [List.length_take]
          exact Nat.min_le_right ..
        · rw [upd_ne (ne_of_none h nD)]
          exact s4 _ _ (s1 _ _ h)
        · rw [upd_same, tk]
          rfl
  · rintro H' ⟨s1, hD⟩
    rw [List.take_length] at hD
    exact hd H' s1 hD
theorem lc_listF {K : PySem.W.Frag} {a : Addr} {xs : List V} {g : TG} {tt : TT} {te : TE} {vs : List Nat} {σ : L2.St} {H1 : Hp} {D : Addr} {Qd : Hp → Prop} (F : V → Option V) (nD : H1 D = none) (hz : xs.length < 100000)
    (hl : ∀ H', Same H1 H' → SqL K H' a xs) (hs : ∀ x ∈ xs, Turn1 g tt te vs σ H1 x (F x)) (hd : ∀ H', Same H1 H' → H' D = some (.lst (xs.filterMap F)) → Qd H') :
    ∃ W : Nat → Nat → Hp → Prop, (∃ m, W 0 m (upd H1 D (.lst []))) ∧ ∀ i m H, W i m H →
      ((Itl K a).stop i H ∧ Qd H) ∨ ((Itl K a).go i H ∧ ∃ Nx : Hp → Prop, (∀ H', Nx H' → ∃ m', m' < m ∧ W (i + 1) m' H') ∧ ∀ x H', (Itl K a).yld i H x H' → g x (wipe σ vs) H' fun σ2 H2 => wipe σ2 vs = wipe σ vs ∧ tt σ2 H2 fun b H3 =>
        if b = true then te σ2 H3 fun y H4 => ∃ acc, H4 D = some (.lst acc) ∧ acc.length < sizeLine ∧ Nx (upd H4 D (.lst (acc ++ [y]))) else Nx H3) := by
  refine lc_list (K := K) (a := a) (xs := xs) (fun i H' => Same H1 H' ∧ H' D = some (.lst ((xs.take i).filterMap F))) ⟨Same.new nD, upd_same⟩ (fun i H' _ z => hl H' z.1) ?_ ?_
  · rintro i x H' hx ⟨s1, hD⟩
    have tk : (xs.take (i + 1)).filterMap F = (xs.take i).filterMap F ++ (F x).toList := by
      rw [List.take_add_one, hx, Option.toList_some, List.filterMap_append]
      cases e : F x <;> simp [e]
    have z := hs x (List.mem_of_getElem? hx) H' (fun r H4 => match r with
      | some y => ∃ acc, H4 D = some (.lst acc) ∧ acc.length < sizeLine ∧ (Same H1 (upd H4 D (.lst (acc ++ [y]))) ∧ upd H4 D (.lst (acc ++ [y])) D = some (.lst ((xs.take (i + 1)).filterMap F)))
      | none => Same H1 H4 ∧ H4 D = some (.lst ((xs.take (i + 1)).filterMap F))) s1 fun H4 s4 => ?_
    · exact z
    · cases e : F x with
      | none =>
        rw [e] at tk
        refine ⟨s1.trans s4, ?_⟩
        rw [tk, Option.toList_none, List.append_nil]
        exact s4 _ _ hD
      | some y =>
        rw [e] at tk
        refine ⟨_, s4 _ _ hD, ?_, fun q o h => ?_, ?_⟩
        · refine Nat.lt_of_lt_of_le ?_ (show 100000 ≤ sizeLine by decide)
          refine Nat.lt_of_le_of_lt (List.length_filterMap_le ..) (Nat.lt_of_le_of_lt ?_ hz)
          rw [List.length_take]
          exact Nat.min_le_right ..
        · rw [upd_ne (ne_of_none h nD)]
          exact s4 _ _ (s1 _ _ h)
        · rw [upd_same, tk]
          rfl
  · rintro H' ⟨s1, hD⟩
    rw [List.take_length] at hD
    exact hd H' s1 hD
/-- t + u of tuples -/
def rCatTS (K : PySem.W.Frag) : R2 := fun x y H Q => ∃ a b xs ys, x = .ref a ∧ y = .ref b ∧ SqT K H a xs ∧ SqT K H b ys ∧ xs.length + ys.length ≤ sizeLine ∧ ∀ p H', Same H H' → SqT K H' p (xs ++ ys) → Q (.ref p) H'
theorem op_catTS {X : Cx} : OpR X (binaryOp .Add) (rCatTS X.K) := by
  intro pins s σ H x y v u Q I rx ry h
  obtain ⟨a, b, xs, ys, h1, h2, h3, h4, h5, h6⟩ := h
  refine op_catA pins s σ H x y v u Q I rx ry ⟨a, b, xs, ys, h1, h2, h3, h4, h5, fun e => ?_, fun _ e => ?_, fun _ _ p hp => ?_⟩
  · exact h6 b H (Same.refl _) (by rw [e, List.nil_append]; exact h4)
  · exact h6 a H (Same.refl _) (by rw [e, List.append_nil]; exact h3)
  · exact h6 p _ (Same.new hp) (SqT.of upd_same)
/-- items told one for one -/
theorem fm_all {xs : List V} {F : V → V} : xs.filterMap (fun x => some (F x)) = xs.map F := by
  induction xs with
  | nil => rfl
  | cons x xs ih => rw [List.filterMap_cons, List.map_cons, ih]
def intF (p : Int → Bool) : V → Option V
  | .int c => if p c then some (.int c) else none
  | _ => none
theorem fm_ints (p : Int → Bool) : ∀ ns : List Int, (ns.map V.int).filterMap (intF p) = (ns.filter p).map V.int
  | [] => rfl
  | c :: ns => by
    rw [List.map_cons, List.filterMap_cons, List.filter_cons]
    have e : intF p (.int c) = if p c then some (.int c) else none := rfl
    rw [e]
    cases h : p c
    · simp [fm_ints p ns]
    · simp [fm_ints p ns]
end Lf

set_option Elab.async false
set_option linter.all false
set_option maxRecDepth 100000
set_option maxHeartbeats 4000000
/-! x.rpartition(y); what stands above a path. -/
namespace Lf
open PySem PySem.Spec PyProof.Rows L2
def rRpart : V → List V → Hp → VK → Prop := fun x xs H Q => ∃ a b, x = .str a ∧ xs = [.str b] ∧ (b.length == 0) = false ∧ a.length ≤ sizeLine ∧
  ∀ p H', H p = none → Same H H' → H' p = some (.tup [.str (Txt.rpartition a b).1, .str (Txt.rpartition a b).2.1, .str (Txt.rpartition a b).2.2]) → Q (.ref p) H'
theorem mt_rpart {X : Cx} : MtR X "str.rpartition" rRpart := by
  intro pins s σ H x xs v us Q I rx rs h
  obtain ⟨a, b, rfl, rfl, hb, hz, h⟩ := h
  obtain ⟨t, rfl⟩ := rx
  cases rs with
  | cons r1 rs =>
    cases rs
    obtain ⟨u, rfl⟩ := r1
    have h' : ∀ p, H p = none → Q (.ref p) (upd H p (.tup [.str (Txt.rpartition a b).1, .str (Txt.rpartition a b).2.1, .str (Txt.rpartition a b).2.2])) := fun p hp => h p _ hp (Same.new hp) upd_same
    refine call_meets F.slot_str_rpartition (typeIs_str _ _ _) F.entry_str_rpartition (F.args_str_rpartition_2 _ _) (meets_str_rpartition a b t u hb hz) ?_
    unfold Txt.rpartition at h'
    revert h'
    cases Builtin.Str.lastOccurrence a b 0 a.length with
    | none => intro h'; exact laid_parts I h'
    | some i => intro h'; exact laid_parts I h'
theorem pe_rpart {X : Cx} {o e : Expr} {to te : TE} {apos pos : Pos} (ho : PE X o to) (he : PE X e te) (hs : starEach [e] X.env = [(false, eval e X.env)] := by rfl) (hbase : attributeBase o "rpartition" X.env (eval o X.env) = eval o X.env := by rfl) (hline : (apos.endLine == pos.line) = true := by rfl) :
    PE X (.Call (.Attribute o "rpartition" apos) [e] [] pos) (tM1 rRpart to te) := pe_m1 F.slot_str_rpartition F.type_str_rpartition mt_rpart ho he hs hbase hline
/-- the path above a path -/
def above (p : Str) : Str := (Txt.rpartition p "_").1
theorem us_eq : (Str.ofString "_") = (⟨#[95]⟩ : Str) := by decide +kernel
theorem above_plain {w : Str} (hw : 95 ∉ TL.tl w) : above w = "" := by
  unfold above Txt.rpartition
  rcases StrLaws.last_spec w "_" with ⟨e, _⟩ | ⟨i, e, hi, _⟩
  · rw [e]
    rfl
  · exfalso
    have h : w.cps.toList[i]? = some 95 := (StrLaws.subAt_one w 95 i).mp (by rw [← us_eq]; exact hi)
    exact hw (List.mem_of_getElem? h)
theorem rpart_join {u w : Str} (hw : 95 ∉ TL.tl w) : (Txt.rpartition (u ++ "_" ++ w) "_").1 = u ∧ (Txt.rpartition (u ++ "_" ++ w) "_").2.2 = w := by
  have ex : TL.tl (u ++ "_" ++ w) = TL.tl u ++ (95 :: TL.tl w) := by
    rw [TL.tl_append, TL.tl_append, us_eq, List.append_assoc]
    rfl
  have at_ : ∀ i, StrLaws.At (u ++ "_" ++ w) "_" (u ++ "_" ++ w).length i ↔ (TL.tl u ++ (95 :: TL.tl w))[i]? = some 95 := fun i => by
    rw [← ex]
    have := StrLaws.subAt_one (u ++ "_" ++ w) 95 i
    rw [← us_eq] at this
    exact this
  have lu : (TL.tl u).length = u.length := (TL.len_tl u).symm
  have here : StrLaws.At (u ++ "_" ++ w) "_" (u ++ "_" ++ w).length (TL.tl u).length := (at_ _).mpr (by rw [List.getElem?_append_right (Nat.le_refl _), Nat.sub_self]; rfl)
  have none_ : ∀ k, (TL.tl u).length < k → ¬ StrLaws.At (u ++ "_" ++ w) "_" (u ++ "_" ++ w).length k := fun k hk z => by
    have z' := (at_ k).mp z
    rw [List.getElem?_append_right (by omega)] at z'
    obtain ⟨j, hj⟩ : ∃ j, k - (TL.tl u).length = j + 1 := ⟨k - (TL.tl u).length - 1, by omega⟩
    rw [hj, List.getElem?_cons_succ] at z'
    exact hw (List.mem_of_getElem? z')
  have e0 : (Txt.rpartition (u ++ "_" ++ w) "_").1 = Builtin.Str.strSub (u ++ "_" ++ w) 0 (TL.tl u).length ∧ (Txt.rpartition (u ++ "_" ++ w) "_").2.2 = Builtin.Str.strSub (u ++ "_" ++ w) ((TL.tl u).length + (Str.ofString "_").length) (u ++ "_" ++ w).length := by
    unfold Txt.rpartition
    rcases StrLaws.last_spec (u ++ "_" ++ w) "_" with ⟨e, hno⟩ | ⟨i, e, hi, hno⟩
    · exact absurd here (hno _)
    · rw [e]
      have : i = (TL.tl u).length := by
        rcases Nat.lt_trichotomy i (TL.tl u).length with h | h | h
        · exact absurd here (hno _ h)
        · exact h
        · exact absurd hi (none_ i h)
      rw [this]
      exact ⟨rfl, rfl⟩
  rw [e0.1, e0.2]
  refine ⟨TL.ext_tl ?_, TL.ext_tl ?_⟩
  rotate_left
  · have l1 : (Str.ofString "_").length = 1 := by decide +kernel
    have l2 : (u ++ "_" ++ w).length = (TL.tl u).length + (1 + (TL.tl w).length) := by rw [TL.len_tl, ex, List.length_append, List.length_cons, Nat.add_comm 1]
    show ((u ++ "_" ++ w).cps.extract ((TL.tl u).length + (Str.ofString "_").length) (u ++ "_" ++ w).length).toList = TL.tl w
    rw [Array.toList_extract, l1, l2]
    show (TL.tl (u ++ "_" ++ w)).extract ((TL.tl u).length + 1) _ = TL.tl w
    rw [ex]
    have d1 : (TL.tl u ++ 95 :: TL.tl w).drop ((TL.tl u).length + 1) = TL.tl w := by
      rw [← List.drop_drop, List.drop_left]
      rfl
    unfold List.extract
    rw [d1]
    exact List.take_of_length_le (by omega)
  show ((u ++ "_" ++ w).cps.extract 0 (TL.tl u).length).toList = TL.tl u
  rw [Array.toList_extract]
  show (TL.tl (u ++ "_" ++ w)).extract 0 (TL.tl u).length = TL.tl u
  rw [ex]
  simp [List.extract]
theorem above_join {u w : Str} (hw : 95 ∉ TL.tl w) : above (u ++ "_" ++ w) = u := (rpart_join hw).1
end Lf

set_option Elab.async false
set_option linter.all false
set_option maxRecDepth 100000
set_option maxHeartbeats 4000000
/-! Own errors with fields: made, raised, caught, asked; an instance made inside a try. -/
namespace Lf
open PySem PySem.Spec PyProof.Rows L2

/-- what an own error class says, one row -/
structure ErrC (K : PySem.W.Frag) (C : Addr) : Prop where
  ox : OexC K C
  ga : PySem.W.findIn K (.ref C) "__getattribute__" = some (some (.builtin "BaseException.__getattribute__"))
  gg : PySem.W.findIn K (.ref C) "__getattr__" = some none
  hd : PySem.W.hasDictIn K C = true
  ca : PySem.W.findIn K (.ref C) "__class__" = some (some (.builtin "object.__class__"))
  cn : PySem.W.specialIn K (.builtin "object.__class__") "__get__" = some (some (.builtin "getset_descriptor.__get__"))
  ct : PySem.W.takesIn K (.builtin "object.__class__") = some true
  cm : PySem.W.mroIn K C (.type "object") = some true
theorem ErrC.xf {K : PySem.W.Frag} {C : Addr} (T : ErrC K C) : XfC K C := ⟨T.ga, T.gg, T.ox.exC, T.hd⟩
theorem ErrC.isc {K : PySem.W.Frag} {C : Addr} (T : ErrC K C) : (PySem.W.clsIn K C).isSome = true := by
  obtain ⟨cd, hc, _⟩ := PySem.W.any_some T.hd
  rw [hc]
  rfl
/-- «except C» of an error of the class at D -/
theorem ErrC.ex {K : PySem.W.Frag} {C : Addr} {cls : Value} {b : Bool} (T : ErrC K C) (h : PySem.W.subIn K cls (.ref C) = some b) : PySem.W.exmOne K cls (.ref C) = some b := PySem.W.exm_ref T.ox.exC T.hd T.ox.tyC h
theorem sub_self {K : PySem.W.Frag} {C : Addr} (T : ErrC K C) : PySem.W.subIn K (.ref C) (.ref C) = some true := by
  obtain ⟨nm, q, N, bs, bm, sn, sub, ab, col, dd, k0, k1, k2, k3, k5, hC, hbm⟩ := T.ox.cls
  show PySem.W.mroIn K C (.ref C) = some true
  have hcl : PySem.W.clsIn K C = some { name := nm, bases := bs, mro := .ref C :: bm, ns := N, qualname := q, hasDict := true, slotNames := sn, subclasses := sub, abstract := ab, collection := col, hasDel := false } := by
    unfold PySem.W.clsIn
    rw [hC] <;> rfl
  unfold PySem.W.mroIn
  rw [hcl, Option.bind_some]
  simp
/-- isinstance(e, c), e the error that the suite holds -/
def rIsX (K : PySem.W.Frag) (a : Addr) (cls : Value) (d : Option Addr) : List V → Hp → VK → Prop := fun xs H Q => ∃ (D dd : Addr) (fs : List (Str × V)) (c : V) (cv : Value) (b : Bool), xs = [.ref a, c] ∧ cls = .ref D ∧ d = some dd ∧ H dd = some (.xd fs) ∧ ErrC K D ∧ (∀ u, RelV c u → u = cv) ∧ PySem.W.kitOne K (.ref D) cv = some b ∧ Q (.bl b) H
theorem call_isX {X : Cx} {a : Addr} {cls : Value} {d : Option Addr} {oe : Obj} {pn : List (Addr × Obj)} (hz : Zc cls d oe) (hf : ∃ vs, oe.data = .fields vs) : CallR (X.suite a ((a, oe) :: pn)) (.builtin "isinstance") (rIsX X.K a cls d) := by
  intro pins s σ H xs us Q I r h
  obtain ⟨D, dd, fs, c, cv, b, rfl, rfl, rfl, hdd, C, hcv, e, q⟩ := h
  cases r with
  | cons rx rr =>
    cases rr with
    | cons rt rr =>
      cases rr
      cases rx
      have ec := hcv _ rt
      subst ec
      obtain ⟨hget, _⟩ := I.pin (a, oe) (List.mem_append_left _ List.mem_cons_self)
      obtain ⟨vs, hv⟩ := hf
      have hx : ObjOk X.prog X.w H s.heap dd (.xd fs) := I.hok dd _ hdd
      obtain ⟨mA, hns, hr⟩ := hx
      obtain ⟨od, ho, hl⟩ := lookIn_ns hns
      have J : PySem.W.InstAt s.heap a oe D (some od) := ⟨hget, hz.1, by unfold PySem.W.notCls; rw [hv] <;> rfl, by rw [hz.2]; exact ho⟩
      exact PySem.W.kia_one (PySem.W.kitx_exc C.isc C.ga C.gg C.ox.exC C.ca C.cn C.ct C.cm) I.kIn J e (fun z => nomatch z) fun tk => ⟨.bl b, H, I.kept (t' := tk) fun _ _ z => z, rfl, q⟩

theorem kit_refs {K : PySem.W.Frag} {T L : Addr} {b : Bool} (hi : PySem.W.isClsIn K L = true) (ht : PySem.W.typeIn K (.ref L) = some (.type "type")) (hs : PySem.W.mroIn K T (.ref T) = some true) (h : PySem.W.mroIn K T (.ref L) = some b) : PySem.W.kitOne K (.ref T) (.ref L) = some b := by
  by_cases e : T = L
  · subst e
    rw [kit_own, ← hs, h]
  · unfold PySem.W.kitOne
    rw [if_neg (by show ¬ ((Value.ref T == Value.ref L) = true); exact fun q => e (Value.ref.inj (beq_iff_eq.mp q)))]
    show (if ((PySem.W.clsIn K L).isSome && PySem.W.typeIn K (.ref L) == some (.type "type")) = true then PySem.W.subIn K (.ref T) (.ref L) else none) = some b
    rw [if_pos (isc_mk hi ht)]
    exact h
theorem kit_refTyB {K : PySem.W.Frag} {C : Addr} {T : String} {b : Bool} (hm : PySem.W.kitMeta T = true) (h : PySem.W.mroIn K C (.type T) = some b) : PySem.W.kitOne K (.ref C) (.type T) = some b := by
  unfold PySem.W.kitOne
  rw [if_neg (by show ¬ ((Value.ref C == Value.type T) = true); exact fun q => nomatch (beq_iff_eq.mp q))]
  show (if PySem.W.kitMeta T = true then PySem.W.mroIn K C (.type T) else none) = some b
  rw [if_pos hm, h]
/-! ### making an instance where an error may be let out -/
def tMakeAt (C : Addr) (sp : Sp) (E : L2.St → XK) (t : TA) : TE := fun σ H Q => t σ H fun vs H1 => ∀ x dx, H1 x = Option.none → H1 dx = Option.none → dx ≠ x →
  sp (V.ref x :: vs) (upd (upd H1 dx (.own x)) x (.ins C dx [])) (fun v H2 => v = .non ∧ Q (.ref x) H2) (E σ)
section
variable {X : Cx} {CX : CXT} {k : Nat} {f C : Addr} {sp : Sp} {E : L2.St → XK} {x : Str} {e : Expr} {es : List Expr} {t : TA} {p pos : Pos}
theorem pe_makeAt (M : Mk X.K C f) (F : FnR X.prog X.w X.K X.mg X.base CX k f sp) (hr : Room (k + 1) X.A) (hg : Gl X x) (hm : X.mg x = some (.ref C)) (hx : ∀ σ, PassesAt CX X σ (E σ)) (ha : PA X (e :: es) t) (hdb : (x == ("__debug__" : Str)) = false := by decide)
    (he : starEach (e :: es) X.env = (false, eval e X.env) :: starEach es X.env := by rfl) (hpl : (backTo pos (starEach es X.env)).any (·.1) = false := by rfl) : PE X (.Call (.Name x p) (e :: es) [] pos) (tMakeAt C sp E t) := by
  refine ⟨fun pins s σ H Q I h => ?_⟩
  refine wpAny_Call_Name_kw (ld_glob I hg hm ?_ hdb)
  refine PySem.W.callWith_K (h₀ := X.base) I.ok.mod.kin M.kp (thn (ha.run pos pins s σ H _ I h) fun us s1 ⟨vs, H1, I1, r, q⟩ => ⟨I1.kIn, ?_⟩) he hpl
  have hq := q (s1.heap.objs.size + 1) s1.heap.objs.size (I1.hok.fresh (Nat.le_succ _)) (I1.hok.fresh (Nat.le_refl _)) (Nat.ne_of_lt (Nat.lt_succ_self _))
  have I2 := Inv.made (C := C) I1
  have r2 : Vals (V.ref (s1.heap.objs.size + 1) :: vs) (Value.ref (s1.heap.objs.size + 1) :: us) := .cons rfl r
  refine wpAny_call (make_map (f := f) I1.kIn M.makes M.init (beq_iff_eq.mp M.fn) (codeAny_mono (F _ X.stack _ _ (Value.ref (s1.heap.objs.size + 1) :: us) _ _ (E σ) (hr.make C us []) (I2.env0.make C us []) r2 hq) fun r s' hq' => ?_))
  cases r with
  | error e => exact hx σ pins _ _ e s' I2 hq'
  | ok fl =>
    cases fl with
    | ret u =>
      obtain ⟨v, H', I3, rv, ev, q3⟩ := I2.after hq'
      subst ev
      exact ⟨rv, ⟨V.ref (s1.heap.objs.size + 1), H', I3, rfl, q3⟩⟩
    | next => exact False.elim hq'
    | brk => exact False.elim hq'
    | cont => exact False.elim hq'
end
/-- the promise of an error's __init__ that sets one field -/
def spErr (C : Addr) (f : Str) : Sp := fun vs H Q _ => ∃ (e : Addr) (y : V), vs = [.ref e, y] ∧ H e = some (exo e C none) ∧ ∀ d, H d = none → d ≠ e → Q .non (upd (upd H d (exd d [(f, y)])) e (exo e C (some d)))
/-- what a raise of such an error leaves -/
theorem mkErr {C : Addr} {f : Str} {y : V} {H : Hp} {Q : XK} (h : ∀ d H', H d = none → Same H H' → H' d = some (.xd [(f, y)]) → Q (.ref C) (some d) H') (a : Addr) (na : H a = none) :
    spErr C f [.ref a, y] (upd H a (exo a C none)) (fun v H2 => v = .non ∧ ∃ (d : Addr) (fs : List (Str × V)), H2 a = some (exo a C (some d)) ∧ H2 d = some (exd d fs) ∧ H d = none ∧ Q (.ref C) (some d) (upd (del H2 a) d (.xd fs))) (fun _ _ _ => False) := by
  refine ⟨a, y, rfl, upd_same, fun d nd nda => ⟨rfl, d, [(f, y)], upd_same, ?_, ?_, ?_⟩⟩
  · rw [upd_ne nda, upd_same]
  · rw [upd_ne nda] at nd
    exact nd
  · have nd' : H d = none := by
      rw [upd_ne nda] at nd
      exact nd
    refine h d _ nd' (fun q o e => ?_) upd_same
    have n1 : q ≠ d := ne_of_none e nd'
    have n2 : q ≠ a := ne_of_none e na
    rw [upd_ne n1, del_ne n2, upd_ne n2, upd_ne n1, upd_ne n2]
    exact e
end Lf

set_option Elab.async false
set_option linter.all false
set_option maxRecDepth 100000
set_option maxHeartbeats 4000000
/-! Data in the heap: what stands and is not changed; expressions that only add objects, by the data they give. -/
namespace Lf
open PySem PySem.Spec PyProof.Rows L2
abbrev RH := Addr → HO → Prop
inductive D where
  | non
  | bl (b : Bool)
  | int (i : Int)
  | str (s : Str)
  | lst (ds : List D)
  | tup (ds : List D)
  | ob (C : Addr) (ns : List Str) (ds : List D)
  | dk (ks : List Key) (ds : List D)
  | rf (a : Addr)
  | ty (n : String)
/-- a tuple to be read: by R, or written -/
def TpR (K : PySem.W.Frag) (R : RH) (a : Addr) (vs : List V) : Prop := R a (.tup vs) ∨ (∃ o, R a (.frz o (.tup vs))) ∨
  ∃ (o : Obj) (its : Array Value) (n : Nat), K.lookup a = some o ∧ o.cls = .type "tuple" ∧ o.data = .seq its n ∧ its.size ≤ sizeLine ∧ Vals vs its.toList
mutual
def rD (K : PySem.W.Frag) (R : RH) : D → V → Prop
  | .non, v => v = .non
  | .bl b, v => v = .bl b
  | .int i, v => v = .int i
  | .str s, v => v = .str s
  | .lst ds, v => ∃ a vs, v = .ref a ∧ R a (.lst vs) ∧ rDs K R ds vs
  | .tup ds, v => ∃ a vs, v = .ref a ∧ TpR K R a vs ∧ rDs K R ds vs
  | .ob C ns ds, v => ∃ a dx fs, v = .ref a ∧ R a (.ins C dx fs) ∧ fs.map Prod.fst = ns ∧ rDs K R ds (fs.map Prod.snd)
  | .dk ks ds, v => ∃ a o kvs, v = .ref a ∧ R a (.frz o (.dK kvs)) ∧ kvs.map Prod.fst = ks ∧ rDs K R ds (kvs.map Prod.snd)
  | .rf a, v => v = .ref a
  | .ty n, v => v = .ty n
def rDs (K : PySem.W.Frag) (R : RH) : List D → List V → Prop
  | [], vs => vs = []
  | d :: ds, vs => ∃ v ws, vs = v :: ws ∧ rD K R d v ∧ rDs K R ds ws
end
theorem TpR.mono {K : PySem.W.Frag} {R R' : RH} (h : ∀ q o, R q o → R' q o) {a : Addr} {vs : List V} (z : TpR K R a vs) : TpR K R' a vs := by
  rcases z with z | ⟨o, z⟩ | z
  · exact .inl (h _ _ z)
  · exact .inr (.inl ⟨o, h _ _ z⟩)
  · exact .inr (.inr z)
mutual
theorem rD.mono {K : PySem.W.Frag} {R R' : RH} (h : ∀ q o, R q o → R' q o) : ∀ (d : D) (v : V), rD K R d v → rD K R' d v
  | .non, v, z => z
  | .bl b, v, z => z
  | .int i, v, z => z
  | .str s, v, z => z
  | .lst ds, v, z => by
    obtain ⟨a, vs, h1, h2, h3⟩ := z
    exact ⟨a, vs, h1, h _ _ h2, rDs.mono h ds vs h3⟩
  | .tup ds, v, z => by
    obtain ⟨a, vs, h1, h2, h3⟩ := z
    exact ⟨a, vs, h1, h2.mono h, rDs.mono h ds vs h3⟩
  | .ob C ns ds, v, z => by
    obtain ⟨a, dx, fs, h1, h2, h3, h4⟩ := z
    exact ⟨a, dx, fs, h1, h _ _ h2, h3, rDs.mono h ds _ h4⟩
  | .dk ks ds, v, z => by
    obtain ⟨a, o, kvs, h1, h2, h3, h4⟩ := z
    exact ⟨a, o, kvs, h1, h _ _ h2, h3, rDs.mono h ds _ h4⟩
  | .rf a, v, z => z
  | .ty n, v, z => z
theorem rDs.mono {K : PySem.W.Frag} {R R' : RH} (h : ∀ q o, R q o → R' q o) : ∀ (ds : List D) (vs : List V), rDs K R ds vs → rDs K R' ds vs
  | [], vs, z => z
  | d :: ds, vs, z => by
    obtain ⟨v, ws, h1, h2, h3⟩ := z
    exact ⟨v, ws, h1, rD.mono h d v h2, rDs.mono h ds ws h3⟩
end
section
variable {K : PySem.W.Frag} {R R' : RH}
theorem rDs.len : ∀ {ds : List D} {vs : List V}, rDs K R ds vs → vs.length = ds.length
  | [], vs, z => by cases (show vs = [] from z); rfl
  | d :: ds, vs, z => by
    obtain ⟨v, ws, rfl, _, h3⟩ := z
    rw [List.length_cons, List.length_cons, rDs.len h3]
theorem rDs.get : ∀ {ds : List D} {vs : List V} {i : Nat} {v : V}, rDs K R ds vs → vs[i]? = some v → ∃ d, ds[i]? = some d ∧ rD K R d v
  | [], vs, i, v, z, e => by cases (show vs = [] from z); simp at e
  | d :: ds, vs, 0, v, z, e => by
    obtain ⟨w, ws, rfl, h2, h3⟩ := z
    cases e
    exact ⟨d, rfl, h2⟩
  | d :: ds, vs, i + 1, v, z, e => by
    obtain ⟨w, ws, rfl, h2, h3⟩ := z
    exact rDs.get (i := i) h3 (by simpa using e)
theorem rDs.at : ∀ {ds : List D} {vs : List V} {i : Nat} {d : D}, rDs K R ds vs → ds[i]? = some d → ∃ v, vs[i]? = some v ∧ rD K R d v
  | [], vs, i, v, z, e => by simp at e
  | d :: ds, vs, 0, d', z, e => by
    obtain ⟨w, ws, rfl, h2, h3⟩ := z
    cases e
    exact ⟨w, rfl, h2⟩
  | d :: ds, vs, i + 1, d', z, e => by
    obtain ⟨w, ws, rfl, h2, h3⟩ := z
    exact rDs.at (i := i) h3 (by simpa using e)
theorem rDs.append : ∀ {ds es : List D} {vs ws : List V}, rDs K R ds vs → rDs K R es ws → rDs K R (ds ++ es) (vs ++ ws)
  | [], es, vs, ws, z, y => by cases (show vs = [] from z); exact y
  | d :: ds, es, vs, ws, z, y => by
    obtain ⟨v, us, rfl, h2, h3⟩ := z
    exact ⟨v, us ++ ws, rfl, h2, rDs.append h3 y⟩
theorem rDs.one {d : D} {v : V} (h : rD K R d v) : rDs K R [d] [v] := ⟨v, [], rfl, h, rfl⟩
theorem rDs.drop : ∀ (n : Nat) {ds : List D} {vs : List V}, rDs K R ds vs → rDs K R (ds.drop n) (vs.drop n)
  | 0, _, _, z => z
  | n + 1, [], vs, z => by cases (show vs = [] from z); exact rfl
  | n + 1, d :: ds, vs, z => by
    obtain ⟨v, us, rfl, h2, h3⟩ := z
    exact rDs.drop n h3
theorem rDs.take : ∀ (n : Nat) {ds : List D} {vs : List V}, rDs K R ds vs → rDs K R (ds.take n) (vs.take n)
  | 0, _, _, z => rfl
  | n + 1, [], vs, z => by cases (show vs = [] from z); exact rfl
  | n + 1, d :: ds, vs, z => by
    obtain ⟨v, us, rfl, h2, h3⟩ := z
    exact ⟨v, _, rfl, h2, rDs.take n h3⟩
theorem rDs.set : ∀ {ds : List D} {vs : List V} {i : Nat} {d : D} {v : V}, rDs K R ds vs → rD K R d v → rDs K R (ds.set i d) (vs.set i v)
  | [], vs, i, d, v, z, _ => by cases (show vs = [] from z); exact rfl
  | e :: ds, vs, 0, d, v, z, y => by
    obtain ⟨w, us, rfl, h2, h3⟩ := z
    exact ⟨v, us, rfl, y, h3⟩
  | e :: ds, vs, i + 1, d, v, z, y => by
    obtain ⟨w, us, rfl, h2, h3⟩ := z
    exact ⟨w, _, rfl, h2, rDs.set h3 y⟩
theorem rDs.atI {ds : List D} {vs : List V} {i : Int} {d : D} (z : rDs K R ds vs) (e : L2.atI ds i = some d) : ∃ v, L2.atI vs i = some v ∧ rD K R d v := by
  unfold L2.atI at e ⊢
  rw [z.len]
  cases h : ixN ds.length i with
  | none => rw [h] at e; cases e
  | some j =>
    rw [h] at e
    exact z.at e
theorem rDs.rep {ds : List D} {vs : List V} (z : rDs K R ds vs) : ∀ n : Nat, rDs K R (List.replicate n ds).flatten (List.replicate n vs).flatten
  | 0 => rfl
  | n + 1 => by rw [List.replicate_succ, List.flatten_cons, List.replicate_succ, List.flatten_cons]; exact z.append (z.rep n)
theorem rDs.strs {xs : List Str} {vs : List V} (z : rDs K R (xs.map D.str) vs) : vs = xs.map V.str := by
  induction xs generalizing vs with
  | nil => exact z
  | cons x xs ih =>
    obtain ⟨v, ws, rfl, h2, h3⟩ := z
    rw [ih h3, List.map_cons, show v = .str x from h2]
theorem rDs.ints {xs : List Int} {vs : List V} (z : rDs K R (xs.map D.int) vs) : vs = xs.map V.int := by
  induction xs generalizing vs with
  | nil => exact z
  | cons x xs ih =>
    obtain ⟨v, ws, rfl, h2, h3⟩ := z
    rw [ih h3, List.map_cons, show v = .int x from h2]
theorem rDs.bls {xs : List Bool} {vs : List V} (z : rDs K R (xs.map D.bl) vs) : vs = xs.map V.bl := by
  induction xs generalizing vs with
  | nil => exact z
  | cons x xs ih =>
    obtain ⟨v, ws, rfl, h2, h3⟩ := z
    rw [ih h3, List.map_cons, show v = .bl x from h2]
theorem rDs.of_strs : ∀ xs : List Str, rDs K R (xs.map D.str) (xs.map V.str)
  | [] => rfl
  | x :: xs => ⟨_, _, rfl, rfl, rDs.of_strs xs⟩
end
/-! ### the world: what may change stands and is told by M -/
def Fx (M : Addr → Prop) (H : Hp) : RH := fun q o => H q = some o ∧ ¬ M q
def Wd (M : Addr → Prop) (H : Hp) : Prop := ∀ q, M q → H q ≠ none
section
variable {M : Addr → Prop} {H H' : Hp} {K : PySem.W.Frag}
theorem Fx.same (s : Same H H') : ∀ q o, Fx M H q o → Fx M H' q o := fun q o h => ⟨s q o h.1, h.2⟩
theorem Wd.same (w : Wd M H) (s : Same H H') : Wd M H' := fun q hq => by
  cases e : H q with
  | none => exact absurd e (w q hq)
  | some o => rw [s q o e]; exact fun z => nomatch z
theorem Wd.free (w : Wd M H) {p : Addr} (n : H p = none) : ¬ M p := fun h => w p h n
theorem Wd.new (w : Wd M H) {p : Addr} {o : HO} (n : H p = none) (h : H' p = some o) : Fx M H' p o := ⟨h, w.free n⟩
theorem rD.same {d : D} {v : V} (h : rD K (Fx M H) d v) (s : Same H H') : rD K (Fx M H') d v := rD.mono (Fx.same s) d v h
theorem rDs.same {d : List D} {v : List V} (h : rDs K (Fx M H) d v) (s : Same H H') : rDs K (Fx M H') d v := rDs.mono (Fx.same s) d v h
theorem TpR.sq {a : Addr} {vs : List V} (h : TpR K (Fx M H) a vs) : SqT K H a vs := by
  rcases h with h | ⟨o, h⟩ | h
  · exact .inl (.inl h.1)
  · exact .inl (.inr ⟨o, h.1⟩)
  · exact .inr h
end
/-- more may change: new objects alone; what stood stands -/
structure Ex (M M' : Addr → Prop) (H H' : Hp) : Prop where
  s : Same H H'
  u : ∀ q, M q → M' q
  n : ∀ q, M' q → M q ∨ H q = none
/-- what is told by R stays told -/
def Lx (M M' : Addr → Prop) (H H' : Hp) : Prop := ∀ q o, Fx M H q o → Fx M' H' q o
section
variable {M M1 M2 : Addr → Prop} {H H1 H2 : Hp} {K : PySem.W.Frag}
theorem Ex.refl : Ex M M H H := ⟨Same.refl _, fun _ h => h, fun _ h => .inl h⟩
theorem Ex.same (s : Same H H1) : Ex M M H H1 := ⟨s, fun _ h => h, fun _ h => .inl h⟩
theorem Ex.trans (a : Ex M M1 H H1) (b : Ex M1 M2 H1 H2) : Ex M M2 H H2 := ⟨a.s.trans b.s, fun q h => b.u q (a.u q h), fun q h => by
  rcases b.n q h with h | h
  · exact a.n q h
  · exact .inr (a.s.free h)⟩
theorem Ex.lx (a : Ex M M1 H H1) : Lx M M1 H H1 := fun q o h => ⟨a.s q o h.1, fun z => by
  rcases a.n q z with z | z
  · exact h.2 z
  · rw [h.1] at z; cases z⟩
theorem Ex.sm (a : Ex M M1 H H1) (b : Same H1 H2) : Ex M M1 H H2 := a.trans (Ex.same b)
theorem Lx.refl : Lx M M H H := fun _ _ h => h
theorem Lx.trans (a : Lx M M1 H H1) (b : Lx M1 M2 H1 H2) : Lx M M2 H H2 := fun q o h => b q o (a q o h)
theorem Lx.same (s : Same H H1) : Lx M M H H1 := Fx.same s
/-- one more object that may change -/
def adM (M : Addr → Prop) (L : Addr) : Addr → Prop := fun q => M q ∨ q = L
theorem Ex.add {L : Addr} (s : Same H H1) (n : H L = none) : Ex M (adM M L) H H1 := ⟨s, fun _ h => .inl h, fun q h => by
  rcases h with h | rfl
  · exact .inl h
  · exact .inr n⟩
theorem Lx.del {L : Addr} : Lx (adM M L) M H H := fun q o h => ⟨h.1, fun z => h.2 (.inl z)⟩
/-- a store in what may change -/
theorem Lx.upd {L : Addr} {o : HO} (h : M L) : Lx M M H (L2.upd H L o) := fun q u z => by
  have n : q ≠ L := fun e => z.2 (by rw [e]; exact h)
  exact ⟨by rw [upd_ne n]; exact z.1, z.2⟩
theorem Wd.upd {L : Addr} {o : HO} (w : Wd M H) : Wd M (L2.upd H L o) := fun q hq => by
  by_cases e : q = L
  · rw [e, upd_same]; exact fun z => nomatch z
  · rw [upd_ne e]; exact w q hq
theorem Wd.add {L : Addr} (w : Wd M H) (h : H L ≠ none) : Wd (adM M L) H := fun q hq => by
  rcases hq with hq | rfl
  · exact w q hq
  · exact h
end
/-! ### expressions that only add objects -/
/-- a value: data, or a list that may change -/
inductive DV where
  | im (d : D)
  | mu (L : Addr) (ds : List D)
  | md (L : Addr) (kvs : List (Str × D))
def rV (K : PySem.W.Frag) (M : Addr → Prop) (H : Hp) : DV → V → Prop
  | .im d, v => rD K (Fx M H) d v
  | .mu L ds, v => v = .ref L ∧ ∃ vs, H L = some (.lst vs) ∧ rDs K (Fx M H) ds vs
  | .md L kvs, v => v = .ref L ∧ ∃ ws : List (Key × V), H L = some (.dK ws) ∧ ws.map Prod.fst = kvs.map (fun p => (Sum.inr p.1 : Key)) ∧ rDs K (Fx M H) (kvs.map Prod.snd) (ws.map Prod.snd)
theorem rV.same {K : PySem.W.Frag} {M : Addr → Prop} {H H' : Hp} (s : Same H H') : ∀ {d : DV} {v : V}, rV K M H d v → rV K M H' d v
  | .im d, v, h => rD.same h s
  | .mu L ds, v, ⟨h1, vs, h2, h3⟩ => ⟨h1, vs, s _ _ h2, h3.same s⟩
  | .md L ds, v, ⟨h1, vs, h2, h0, h3⟩ => ⟨h1, vs, s _ _ h2, h0, h3.same s⟩
theorem rV.ex {K : PySem.W.Frag} {M M' : Addr → Prop} {H H' : Hp} (s : Ex M M' H H') : ∀ {d : DV} {v : V}, rV K M H d v → rV K M' H' d v
  | .im d, v, h => rD.mono s.lx d v h
  | .mu L ds, v, ⟨h1, vs, h2, h3⟩ => ⟨h1, vs, s.s _ _ h2, rDs.mono s.lx _ _ h3⟩
  | .md L ds, v, ⟨h1, vs, h2, h0, h3⟩ => ⟨h1, vs, s.s _ _ h2, h0, rDs.mono s.lx _ _ h3⟩
/-- list-like -/
def LsOf (d : DV) (ds : List D) : Prop := d = .im (.lst ds) ∨ ∃ L, d = .mu L ds
theorem LsOf.im {ds : List D} : LsOf (.im (.lst ds)) ds := .inl rfl
theorem LsOf.mu {L : Addr} {ds : List D} : LsOf (.mu L ds) ds := .inr ⟨L, rfl⟩
theorem LsOf.get {K : PySem.W.Frag} {M : Addr → Prop} {H : Hp} {d : DV} {ds : List D} {v : V} (h : LsOf d ds) (r : rV K M H d v) : ∃ a vs, v = .ref a ∧ H a = some (.lst vs) ∧ rDs K (Fx M H) ds vs := by
  rcases h with rfl | ⟨L, rfl⟩
  · obtain ⟨a, vs, h1, h2, h3⟩ := r
    exact ⟨a, vs, h1, h2.1, h3⟩
  · obtain ⟨h1, vs, h2, h3⟩ := r
    exact ⟨L, vs, h1, h2, h3⟩
/-- list or tuple -/
def SqOf (d : DV) (ds : List D) : Prop := LsOf d ds ∨ d = .im (.tup ds)
theorem SqOf.get {K : PySem.W.Frag} {M : Addr → Prop} {H : Hp} {d : DV} {ds : List D} {v : V} (h : SqOf d ds) (r : rV K M H d v) : ∃ a vs, v = .ref a ∧ (SqL K H a vs ∨ SqT K H a vs) ∧ rDs K (Fx M H) ds vs := by
  rcases h with h | rfl
  · obtain ⟨a, vs, h1, h2, h3⟩ := h.get r
    exact ⟨a, vs, h1, .inl (SqL.of h2), h3⟩
  · obtain ⟨a, vs, h1, h2, h3⟩ := r
    exact ⟨a, vs, h1, .inr h2.sq, h3⟩
section
variable (K : PySem.W.Frag) (M : Addr → Prop)
def EV (σ : L2.St) (H : Hp) (t : TE) (d : DV) : Prop := ∀ M' H1, Wd M' H1 → Ex M M' H H1 → ∀ Q : VK, (∀ v H2, Wd M' H2 → Same H1 H2 → rV K M' H2 d v → Q v H2) → t σ H1 Q
def EVT (σ : L2.St) (H : Hp) (t : TT) (b : Bool) : Prop := ∀ M' H1, Wd M' H1 → Ex M M' H H1 → ∀ Q : Bool → Hp → Prop, (∀ H2, Wd M' H2 → Same H1 H2 → Q b H2) → t σ H1 Q
def EVO (σ : L2.St) (H : Hp) (t : TO) (b : Option Int) : Prop := ∀ M' H1, Wd M' H1 → Ex M M' H H1 → ∀ Q : Option Int → Hp → Prop, (∀ H2, Wd M' H2 → Same H1 H2 → Q b H2) → t σ H1 Q
inductive rVs (H : Hp) : List DV → List V → Prop
  | nil : rVs H [] []
  | cons {d : DV} {v : V} {ds : List DV} {vs : List V} : rV K M H d v → rVs H ds vs → rVs H (d :: ds) (v :: vs)
def EVA (σ : L2.St) (H : Hp) (t : TA) (ds : List DV) : Prop := ∀ M' H1, Wd M' H1 → Ex M M' H H1 → ∀ Q : List V → Hp → Prop, (∀ vs H2, Wd M' H2 → Same H1 H2 → rVs K M' H2 ds vs → Q vs H2) → t σ H1 Q
end
section
variable (K : PySem.W.Frag)
/-- an operator of two values -/
def OpD (r : R2) (d e f : DV) : Prop := ∀ M H, Wd M H → ∀ x y, rV K M H d x → rV K M H e y → ∀ Q : VK, (∀ v H2, Wd M H2 → Same H H2 → rV K M H2 f v → Q v H2) → r x y H Q
def UnD (r : V → Hp → VK → Prop) (d f : DV) : Prop := ∀ M H, Wd M H → ∀ x, rV K M H d x → ∀ Q : VK, (∀ v H2, Wd M H2 → Same H H2 → rV K M H2 f v → Q v H2) → r x H Q
/-- a call of some values -/
def CaD (r : List V → Hp → VK → Prop) (ds : List DV) (f : DV) : Prop := ∀ M H, Wd M H → ∀ xs, rVs K M H ds xs → ∀ Q : VK, (∀ v H2, Wd M H2 → Same H H2 → rV K M H2 f v → Q v H2) → r xs H Q
def MtD (r : V → List V → Hp → VK → Prop) (d : DV) (ds : List DV) (f : DV) : Prop := ∀ M H, Wd M H → ∀ x xs, rV K M H d x → rVs K M H ds xs → ∀ Q : VK, (∀ v H2, Wd M H2 → Same H H2 → rV K M H2 f v → Q v H2) → r x xs H Q
end
section
variable {K : PySem.W.Frag} {M M' : Addr → Prop} {σ : L2.St} {H H' : Hp} {t ta tb tc : TE} {tt tu : TT} {tA : TA} {d e f : DV} {b c : Bool} {ds : List DV}
theorem rVs.same (s : Same H H') : ∀ {ds : List DV} {vs : List V}, rVs K M H ds vs → rVs K M H' ds vs
  | _, _, .nil => .nil
  | _, _, .cons h1 h2 => .cons (h1.same s) (rVs.same s h2)
theorem EV.go (h : EV K M σ H t d) (w : Wd M H) {Q : VK} (k : ∀ v H2, Wd M H2 → Same H H2 → rV K M H2 d v → Q v H2) : t σ H Q := h M H w Ex.refl Q k
theorem EVT.go (h : EVT M σ H tt b) (w : Wd M H) {Q : Bool → Hp → Prop} (k : ∀ H2, Wd M H2 → Same H H2 → Q b H2) : tt σ H Q := h M H w Ex.refl Q k
theorem EVA.go (h : EVA K M σ H tA ds) (w : Wd M H) {Q : List V → Hp → Prop} (k : ∀ vs H2, Wd M H2 → Same H H2 → rVs K M H2 ds vs → Q vs H2) : tA σ H Q := h M H w Ex.refl Q k
theorem EV.ex (h : EV K M σ H t d) (s : Ex M M' H H') : EV K M' σ H' t d := fun M2 H1 w s1 Q k => h M2 H1 w (s.trans s1) Q k
theorem ev_var {i : Nat} {v : V} (hs : σ[i]? = some (some v)) (hv : rV K M H d v) : EV K M σ H (tVar i) d := fun M' H1 w s Q k => ⟨v, hs, k v H1 w (Same.refl _) (hv.ex s)⟩
theorem ev_c {x : D} {v : V} (hv : ∀ R, rD K R x v) : EV K M σ H (tC v) (.im x) := fun M' H1 w s Q k => k v H1 w (Same.refl _) (hv _)
theorem ev_int {i : Int} : EV K M σ H (tC (.int i)) (.im (.int i)) := ev_c fun _ => rfl
theorem ev_str {i : Str} : EV K M σ H (tC (.str i)) (.im (.str i)) := ev_c fun _ => rfl
theorem ev_bl {i : Bool} : EV K M σ H (tC (.bl i)) (.im (.bl i)) := ev_c fun _ => rfl
theorem ev_non : EV K M σ H (tC .non) (.im .non) := ev_c fun _ => rfl
theorem ev_rf {a : Addr} : EV K M σ H (tC (.ref a)) (.im (.rf a)) := ev_c fun _ => rfl
theorem ev_ty {a : String} : EV K M σ H (tC (.ty a)) (.im (.ty a)) := ev_c fun _ => rfl
theorem ev_op {r : R2} (ha : EV K M σ H ta d) (hb : EV K M σ H tb e) (ho : OpD K r d e f) : EV K M σ H (tOp r ta tb) f := fun M' H1 w s Q k =>
  ha M' H1 w s _ fun x H2 w2 s2 hx => hb M' H2 w2 (s.sm s2) _ fun y H3 w3 s3 hy => ho M' H3 w3 x y (hx.same s3) hy Q fun v H4 w4 s4 hv => k v H4 w4 ((s2.trans s3).trans s4) hv
theorem ev_un {r : V → Hp → VK → Prop} (ha : EV K M σ H ta d) (ho : UnD K r d f) : EV K M σ H (tUn r ta) f := fun M' H1 w s Q k =>
  ha M' H1 w s _ fun x H2 w2 s2 hx => ho M' H2 w2 x hx Q fun v H4 w4 s4 hv => k v H4 w4 (s2.trans s4) hv
theorem eva_nil : EVA K M σ H tNil [] := fun M' H1 w s Q k => k [] H1 w (Same.refl _) .nil
theorem eva_cons (ha : EV K M σ H ta d) (hb : EVA K M σ H tA ds) : EVA K M σ H (tCons ta tA) (d :: ds) := fun M' H1 w s Q k =>
  ha M' H1 w s _ fun x H2 w2 s2 hx => hb M' H2 w2 (s.sm s2) _ fun xs H3 w3 s3 hxs => k (x :: xs) H3 w3 (s2.trans s3) (.cons (hx.same s3) hxs)
theorem ev_cb {r : List V → Hp → VK → Prop} (ha : EVA K M σ H tA ds) (ho : CaD K r ds f) : EV K M σ H (tCB r tA) f := fun M' H1 w s Q k =>
  ha M' H1 w s _ fun xs H2 w2 s2 hx => ho M' H2 w2 xs hx Q fun v H4 w4 s4 hv => k v H4 w4 (s2.trans s4) hv
/-- a call of a def by what it gives -/
theorem ev_call {sp : Sp} {E : XK} (ha : EVA K M σ H tA ds) (ho : CaD K (fun vs H Q => sp vs H Q E) ds f) : EV K M σ H (tCall sp [] E tA) f := fun M' H1 w s Q k =>
  ha M' H1 w s _ fun xs H2 w2 s2 hx => by
    show sp (xs ++ []) H2 Q E
    rw [List.append_nil]
    exact ho M' H2 w2 xs hx Q fun v H4 w4 s4 hv => k v H4 w4 (s2.trans s4) hv
/-- a list's method that only reads -/
theorem ev_bm {r : V → List V → Hp → VK → Prop} {es : List D} (ha : EV K M σ H ta d) (hl : LsOf d es) (hb : EVA K M σ H tA ds) (ho : MtD K r d ds f) : EV K M σ H (tBM K "list" r ta tA) f := fun M' H1 w s Q k =>
  ha M' H1 w s _ fun x H2 w2 s2 hx => by
    obtain ⟨a, vs, rfl, h2, h3⟩ := hl.get hx
    exact ⟨.inl ⟨rfl, _, SqL.of h2⟩, hb M' H2 w2 (s.sm s2) _ fun xs H3 w3 s3 hxs => ho M' H3 w3 _ xs (hx.same s3) hxs Q fun v H4 w4 s4 hv => k v H4 w4 ((s2.trans s3).trans s4) hv⟩
/-- a text's method of one argument -/
theorem ev_m1 {r : V → List V → Hp → VK → Prop} {x : Str} (ha : EV K M σ H ta (.im (.str x))) (hb : EV K M σ H tb e) (ho : MtD K r (.im (.str x)) [e] f) : EV K M σ H (tM1 r ta tb) f := fun M' H1 w s Q k =>
  ha M' H1 w s _ fun v H2 w2 s2 hx => ⟨⟨x, hx⟩, hb M' H2 w2 (s.sm s2) _ fun y H3 w3 s3 hy => ho M' H3 w3 v [y] (hx.same s3) (.cons hy .nil) Q fun v H4 w4 s4 hv => k v H4 w4 ((s2.trans s3).trans s4) hv⟩
/-! tests -/
theorem evt_test (h : EV K M σ H t (.im (.bl b))) : EVT M σ H (tTest t) b := fun M' H1 w s Q k => h M' H1 w s _ fun v H2 w2 s2 hv => ⟨b, hv, k H2 w2 s2⟩
theorem evt_b (h : EV K M σ H t (.im (.bl b))) : EVT M σ H (tB t) b := fun M' H1 w s Q k => h M' H1 w s _ fun v H2 w2 s2 hv => ⟨b, hv, k H2 w2 s2⟩
theorem evt_and (h1 : EVT M σ H tt b) (h2 : b = true → EVT M σ H tu c) : EVT M σ H (tAnd tt tu) (b && c) := fun M' H1 w s Q k => h1 M' H1 w s _ fun H2 w2 s2 => by
  cases b with
  | true => exact h2 rfl M' H2 w2 (s.sm s2) _ fun H3 w3 s3 => k H3 w3 (s2.trans s3)
  | false => exact k H2 w2 s2
theorem evt_or (h1 : EVT M σ H tt b) (h2 : b = false → EVT M σ H tu c) : EVT M σ H (tOr tt tu) (b || c) := fun M' H1 w s Q k => h1 M' H1 w s _ fun H2 w2 s2 => by
  cases b with
  | true => exact k H2 w2 s2
  | false => exact h2 rfl M' H2 w2 (s.sm s2) _ fun H3 w3 s3 => k H3 w3 (s2.trans s3)
theorem evt_not (h1 : EVT M σ H tt b) : EVT M σ H (tNot tt) (!b) := fun M' H1 w s Q k => h1 M' H1 w s _ fun H2 w2 s2 => k H2 w2 s2
theorem evt_yes : EVT M σ H tYes true := fun M' H1 w s Q k => k H1 w (Same.refl _)
theorem ev_and (h1 : EV K M σ H ta (.im (.bl b))) (h2 : b = true → EV K M σ H tb (.im (.bl c))) : EV K M σ H (tAndV ta tb) (.im (.bl (b && c))) := fun M' H1 w s Q k => h1 M' H1 w s _ fun v H2 w2 s2 hv => by
  refine ⟨b, hv, ?_⟩
  cases b with
  | true => exact h2 rfl M' H2 w2 (s.sm s2) _ fun v H3 w3 s3 hv => k v H3 w3 (s2.trans s3) hv
  | false => exact k _ H2 w2 s2 rfl
theorem ev_or (h1 : EV K M σ H ta (.im (.bl b))) (h2 : b = false → EV K M σ H tb (.im (.bl c))) : EV K M σ H (tOrV ta tb) (.im (.bl (b || c))) := fun M' H1 w s Q k => h1 M' H1 w s _ fun v H2 w2 s2 hv => by
  refine ⟨b, hv, ?_⟩
  cases b with
  | true => exact k _ H2 w2 s2 rfl
  | false => exact h2 rfl M' H2 w2 (s.sm s2) _ fun v H3 w3 s3 hv => k v H3 w3 (s2.trans s3) hv
theorem ev_not (h1 : EV K M σ H ta (.im (.bl b))) : EV K M σ H (tNotV ta) (.im (.bl (!b))) := fun M' H1 w s Q k => h1 M' H1 w s _ fun v H2 w2 s2 hv => ⟨b, hv, k _ H2 w2 s2 rfl⟩
theorem ev_if {α : Type} {en : α → DV} {x y : α} (hc : EVT M σ H tt b) (h1 : b = true → EV K M σ H ta (en x)) (h2 : b = false → EV K M σ H tb (en y)) : EV K M σ H (tIf tt ta tb) (en (if b = true then x else y)) := fun M' H1 w s Q k => hc M' H1 w s _ fun H2 w2 s2 => by
  cases b with
  | true => exact h1 rfl M' H2 w2 (s.sm s2) _ fun v H3 w3 s3 hv => k v H3 w3 (s2.trans s3) hv
  | false => exact h2 rfl M' H2 w2 (s.sm s2) _ fun v H3 w3 s3 hv => k v H3 w3 (s2.trans s3) hv
/-! displays -/
theorem rVs.ims : ∀ {ds : List D} {vs : List V}, rVs K M H (ds.map .im) vs → rDs K (Fx M H) ds vs
  | [], _, .nil => rfl
  | d :: ds, _, .cons h1 h2 => ⟨_, _, rfl, h1, rVs.ims h2⟩
theorem rVs.len : ∀ {ds : List DV} {vs : List V}, rVs K M H ds vs → vs.length = ds.length
  | [], _, .nil => rfl
  | d :: ds, _, .cons h1 h2 => congrArg Nat.succ (rVs.len h2)
theorem ev_tup {ds : List D} (ha : EVA K M σ H tA (ds.map .im)) (hz : ds.length ≤ 1000) : EV K M σ H (tTupS tA) (.im (.tup ds)) := fun M' H1 w s Q k =>
  ha M' H1 w s _ fun xs H2 w2 s2 hx => ⟨sz_of (by rw [hx.len, List.length_map]; omega), fun p H3 np s3 hp => k _ H3 (w2.same s3) (s2.trans s3) ⟨p, xs, rfl, .inl (w2.new np hp), hx.ims.same s3⟩⟩
theorem ev_lst {ds : List D} (ha : EVA K M σ H tA (ds.map .im)) (hz : ds.length ≤ 1000) : EV K M σ H (tLstS tA) (.im (.lst ds)) := fun M' H1 w s Q k =>
  ha M' H1 w s _ fun xs H2 w2 s2 hx => ⟨sz_of (by rw [hx.len, List.length_map]; omega), fun p H3 np s3 hp => k _ H3 (w2.same s3) (s2.trans s3) ⟨p, xs, rfl, w2.new np hp, hx.ims.same s3⟩⟩
end
end Lf

set_option Elab.async false
set_option linter.all false
set_option maxRecDepth 100000
set_option maxHeartbeats 4000000
/-! Operators, built-ins and methods by data; what is walked; comprehensions. -/
namespace Lf
open PySem PySem.Spec PyProof.Rows L2
section
variable {K : PySem.W.Frag} {M : Addr → Prop} {σ : L2.St} {H H' : Hp} {t ta tb tc : TE} {tt tu : TT} {tA : TA} {d e f : DV} {b c : Bool} {ds : List DV}
/-! ### ints -/
theorem od_i0 {g : Int → Int → V} {r : D} {i j : Int} (h : ∀ R, rD K R r (g i j)) : OpD K (rI0 g) (.im (.int i)) (.im (.int j)) (.im r) := fun M H w x y hx hy Q k => ⟨i, j, hx, hy, k _ H w (Same.refl _) (h _)⟩
theorem od_i {C : Int → Int → Prop} {g : Int → Int → V} {r : D} {i j : Int} (hc : C i j) (h : ∀ R, rD K R r (g i j)) : OpD K (rI C g) (.im (.int i)) (.im (.int j)) (.im r) := fun M H w x y hx hy Q k => ⟨i, j, hx, hy, hc, k _ H w (Same.refl _) (h _)⟩
theorem od_add {i j : Int} : OpD K rAddI (.im (.int i)) (.im (.int j)) (.im (.int (i + j))) := od_i0 fun _ => rfl
theorem od_sub {i j : Int} : OpD K rSubI (.im (.int i)) (.im (.int j)) (.im (.int (i - j))) := od_i0 fun _ => rfl
theorem od_mul {i j : Int} (h : CMul i j) : OpD K rMulI (.im (.int i)) (.im (.int j)) (.im (.int (i * j))) := od_i h fun _ => rfl
theorem od_mulW {i j : Int} (h : CMulW i j) : OpD K (rI CMulW fun i j => .int (i * j)) (.im (.int i)) (.im (.int j)) (.im (.int (i * j))) := od_i h fun _ => rfl
theorem od_fdiv {i j : Int} (h : CDiv i j) : OpD K rFdivI (.im (.int i)) (.im (.int j)) (.im (.int (i / j))) := od_i h fun _ => rfl
theorem od_mod {i j : Int} (h : 0 < j) : OpD K rModI (.im (.int i)) (.im (.int j)) (.im (.int (i % j))) := od_i (C := fun _ j => 0 < j) h fun _ => rfl
theorem od_lt {i j : Int} : OpD K rLtI (.im (.int i)) (.im (.int j)) (.im (.bl (decide (i < j)))) := od_i0 fun _ => rfl
theorem od_le {i j : Int} : OpD K rLeI (.im (.int i)) (.im (.int j)) (.im (.bl (decide (i ≤ j)))) := od_i0 fun _ => rfl
theorem od_gt {i j : Int} : OpD K rGtI (.im (.int i)) (.im (.int j)) (.im (.bl (decide (j < i)))) := od_i0 fun _ => rfl
theorem od_ge {i j : Int} : OpD K rGeI (.im (.int i)) (.im (.int j)) (.im (.bl (decide (j ≤ i)))) := od_i0 fun _ => rfl
theorem ud_neg {i : Int} : UnD K rNegI (.im (.int i)) (.im (.int (-i))) := fun M H w x hx Q k => ⟨i, hx, k _ H w (Same.refl _) rfl⟩
theorem od_eqI {i j : Int} : OpD K rEq (.im (.int i)) (.im (.int j)) (.im (.bl (decide (i = j)))) := fun M H w x y hx hy Q k => by
  cases hx; cases hy
  refine ⟨rfl, ?_⟩
  rw [show decide (V.int i = V.int j) = decide (i = j) by simp]
  exact k _ H w (Same.refl _) rfl
theorem od_neI {i j : Int} : OpD K rNe (.im (.int i)) (.im (.int j)) (.im (.bl (!decide (i = j)))) := fun M H w x y hx hy Q k => by
  cases hx; cases hy
  refine ⟨rfl, ?_⟩
  rw [show decide (V.int i = V.int j) = decide (i = j) by simp]
  exact k _ H w (Same.refl _) rfl
theorem od_eqS {i j : Str} : OpD K rEq (.im (.str i)) (.im (.str j)) (.im (.bl (decide (i = j)))) := fun M H w x y hx hy Q k => by
  cases hx; cases hy
  refine ⟨rfl, ?_⟩
  rw [show decide (V.str i = V.str j) = decide (i = j) by simp]
  exact k _ H w (Same.refl _) rfl
theorem od_neS {i j : Str} : OpD K rNe (.im (.str i)) (.im (.str j)) (.im (.bl (!decide (i = j)))) := fun M H w x y hx hy Q k => by
  cases hx; cases hy
  refine ⟨rfl, ?_⟩
  rw [show decide (V.str i = V.str j) = decide (i = j) by simp]
  exact k _ H w (Same.refl _) rfl
theorem od_addS {i j : Str} (h : i.length + j.length ≤ sizeLine) : OpD K rAddS (.im (.str i)) (.im (.str j)) (.im (.str (i ++ j))) := fun M H w x y hx hy Q k => ⟨i, j, hx, hy, h, k _ H w (Same.refl _) rfl⟩
/-! ### lists and tuples -/
def ixD {α : Type} [Inhabited α] (xs : List α) (i : Int) : α := (atI xs i).getD default
def InB {α : Type} (xs : List α) (i : Int) : Prop := -(xs.length : Int) ≤ i ∧ i < xs.length
theorem atI_map {α β : Type} (f : α → β) (xs : List α) (i : Int) : atI (xs.map f) i = (atI xs i).map f := by
  unfold atI
  rw [List.length_map]
  cases ixN xs.length i with
  | none => rfl
  | some j => simp
theorem atI_ixD {α : Type} [Inhabited α] {xs : List α} {i : Int} (h : InB xs i) : atI xs i = some (ixD xs i) := by
  obtain ⟨v, _, hv⟩ := atI_some h.1 h.2
  unfold ixD
  rw [hv]
  rfl
theorem ixD_mem {α : Type} [Inhabited α] {xs : List α} {i : Int} (h : InB xs i) : ixD xs i ∈ xs := by
  obtain ⟨v, hm, hv⟩ := atI_some h.1 h.2
  unfold ixD
  rw [hv]
  exact hm
theorem ixD_nat {α : Type} [Inhabited α] {xs : List α} {i : Nat} {x : α} (h : xs[i]? = some x) : ixD xs (i : Int) = x := by
  unfold ixD
  rw [atI_nat h]
  rfl
theorem od_ixL {es : List D} {i : Int} {r : D} (hl : LsOf d es) (h : atI es i = some r) : OpD K (rIxL K) d (.im (.int i)) (.im r) := fun M H w x y hx hy Q k => by
  obtain ⟨a, vs, h1, h2, h3⟩ := hl.get hx
  obtain ⟨v, hv, hr⟩ := h3.atI h
  exact ⟨a, vs, i, v, h1, hy, SqL.of h2, hv, k _ H w (Same.refl _) hr⟩
theorem od_ixT {es : List D} {i : Int} {r : D} (h : atI es i = some r) : OpD K (rIxT K) (.im (.tup es)) (.im (.int i)) (.im r) := fun M H w x y hx hy Q k => by
  obtain ⟨a, vs, h1, h2, h3⟩ := hx
  obtain ⟨v, hv, hr⟩ := h3.atI h
  exact ⟨a, vs, i, v, h1, hy, h2.sq, hv, k _ H w (Same.refl _) hr⟩
theorem od_ixLm {α : Type} [Inhabited α] {en : α → D} {xs : List α} {i : Int} (hl : LsOf d (xs.map en)) (h : InB xs i) : OpD K (rIxL K) d (.im (.int i)) (.im (en (ixD xs i))) := od_ixL hl (by rw [atI_map, atI_ixD h]; rfl)
theorem od_ixTm {α : Type} [Inhabited α] {en : α → D} {xs : List α} {i : Int} (h : InB xs i) : OpD K (rIxT K) (.im (.tup (xs.map en))) (.im (.int i)) (.im (en (ixD xs i))) := od_ixT (by rw [atI_map, atI_ixD h]; rfl)
/-- the sign at i -/
def ixS (z : Str) (i : Int) : Str := ⟨#[(atI z.cps.toList i).getD 0]⟩
theorem od_ixS {z : Str} {i : Int} (hz : z.length ≤ sizeLine) (h : InB z.cps.toList i) : OpD K rIxS (.im (.str z)) (.im (.int i)) (.im (.str (ixS z i))) := fun M H w x y hx hy Q k => by
  obtain ⟨c, _, hc⟩ := atI_some h.1 h.2
  refine ⟨z, i, c, hx, hy, hz, hc, ?_⟩
  have e : ixS z i = ⟨#[c]⟩ := by unfold ixS; rw [hc]; rfl
  rw [← e]
  exact k _ H w (Same.refl _) rfl
theorem od_cat {es fs : List D} (h1 : LsOf d es) (h2 : LsOf e fs) (hz : es.length + fs.length ≤ sizeLine) : OpD K rCatS d e (.im (.lst (es ++ fs))) := fun M H w x y hx hy Q k => by
  obtain ⟨a, vs, e1, e2, e3⟩ := h1.get hx
  obtain ⟨b, ws, f1, f2, f3⟩ := h2.get hy
  exact ⟨a, b, vs, ws, e1, f1, e2, f2, by rw [e3.len, f3.len]; exact hz, fun p H' np s' hp => k _ H' (w.same s') s' ⟨p, _, rfl, w.new np hp, (e3.append f3).same s'⟩⟩
theorem od_catm {α : Type} {en : α → D} {xs ys : List α} (h1 : LsOf d (xs.map en)) (h2 : LsOf e (ys.map en)) (hz : xs.length + ys.length ≤ sizeLine) : OpD K rCatS d e (.im (.lst ((xs ++ ys).map en))) := by
  rw [List.map_append]
  exact od_cat h1 h2 (by rw [List.length_map, List.length_map]; exact hz)
theorem od_catT {es fs : List D} (hz : es.length + fs.length ≤ sizeLine) : OpD K (rCatA K) (.im (.tup es)) (.im (.tup fs)) (.im (.tup (es ++ fs))) := fun M H w x y hx hy Q k => by
  obtain ⟨a, vs, e1, e2, e3⟩ := hx
  obtain ⟨b, ws, f1, f2, f3⟩ := hy
  refine ⟨a, b, vs, ws, e1, f1, e2.sq, f2.sq, by rw [e3.len, f3.len]; exact hz, fun e0 => ?_, fun _ e0 => ?_, fun _ _ p np => ?_⟩
  · subst e0
    exact k _ H w (Same.refl _) ⟨b, ws, rfl, f2, e3.append f3⟩
  · subst e0
    have := e3.append f3
    rw [List.append_nil] at this
    exact k _ H w (Same.refl _) ⟨a, vs, rfl, e2, this⟩
  · have s' : Same H (L2.upd H p (.tup (vs ++ ws))) := Same.new np
    exact k _ _ (w.same s') s' ⟨p, _, rfl, .inl (w.new np upd_same), (e3.append f3).same s'⟩
theorem od_catTm {α : Type} {en : α → D} {xs ys : List α} (hz : xs.length + ys.length ≤ sizeLine) : OpD K (rCatA K) (.im (.tup (xs.map en))) (.im (.tup (ys.map en))) (.im (.tup ((xs ++ ys).map en))) := by
  rw [List.map_append]
  exact od_catT (by rw [List.length_map, List.length_map]; exact hz)
/-- [x] * k -/
theorem od_rep {es : List D} {i : Int} (h1 : LsOf d es) (i0 : -(2 ^ 63) ≤ i) (i1 : i < 2 ^ 63) (hz : es.length * i.toNat ≤ sizeLine) : OpD K rRepS d (.im (.int i)) (.im (.lst (List.replicate i.toNat es).flatten)) := fun M H w x y hx hy Q k => by
  obtain ⟨a, vs, e1, e2, e3⟩ := h1.get hx
  exact ⟨a, i, vs, e1, hy, e2, i0, i1, by rw [e3.len]; exact hz, fun p H' np s' hp => k _ H' (w.same s') s' ⟨p, _, rfl, w.new np hp, (e3.rep _).same s'⟩⟩
theorem cd_len {es : List D} (h : SqOf d es) : CaD K (rLenSq K) [d] (.im (.int es.length)) := fun M H w xs hx Q k => by
  cases hx with
  | cons h1 h2 =>
    cases h2
    obtain ⟨a, vs, rfl, e2, e3⟩ := h.get h1
    refine ⟨a, vs, rfl, e2, ?_⟩
    rw [e3.len]
    exact k _ H w (Same.refl _) rfl
theorem cd_lenm {α : Type} {en : α → D} {xs : List α} (h : SqOf d (xs.map en)) : CaD K (rLenSq K) [d] (.im (.int xs.length)) := by
  have := cd_len (K := K) h
  rw [List.length_map] at this
  exact this
theorem cd_lenS {z : Str} (hz : z.length ≤ sizeLine) : CaD K (fun xs H Q => ∃ z, xs = [.str z] ∧ z.length ≤ sizeLine ∧ Q (.int z.length) H) [.im (.str z)] (.im (.int z.length)) := fun M H w xs hx Q k => by
  cases hx with
  | cons h1 h2 =>
    cases h2
    cases h1
    exact ⟨z, rfl, hz, k _ H w (Same.refl _) rfl⟩
theorem cd_any {bs : List Bool} (h : LsOf d (bs.map .bl)) : CaD K (rAny K) [d] (.im (.bl (bs.any id))) := fun M H w xs hx Q k => by
  cases hx with
  | cons h1 h2 =>
    cases h2
    obtain ⟨a, vs, rfl, e2, e3⟩ := h.get h1
    exact ⟨a, bs, rfl, by rw [← e3.bls]; exact SqL.of e2, k _ H w (Same.refl _) rfl⟩
theorem cd_all {bs : List Bool} (h : LsOf d (bs.map .bl)) : CaD K (rAll K) [d] (.im (.bl (bs.all id))) := fun M H w xs hx Q k => by
  cases hx with
  | cons h1 h2 =>
    cases h2
    obtain ⟨a, vs, rfl, e2, e3⟩ := h.get h1
    exact ⟨a, bs, rfl, by rw [← e3.bls]; exact SqL.of e2, k _ H w (Same.refl _) rfl⟩
theorem cd_sum {ns : List Int} (h : LsOf d (ns.map .int)) : CaD K (rSum K) [d] (.im (.int ns.sum)) := fun M H w xs hx Q k => by
  cases hx with
  | cons h1 h2 =>
    cases h2
    obtain ⟨a, vs, rfl, e2, e3⟩ := h.get h1
    exact ⟨a, ns, rfl, by rw [← e3.ints]; exact SqL.of e2, k _ H w (Same.refl _) rfl⟩
theorem cd_tuple {es : List D} (h : LsOf d es) : CaD K (rTupleD K) [d] (.im (.tup es)) := fun M H w xs hx Q k => by
  cases hx with
  | cons h1 h2 =>
    cases h2
    obtain ⟨a, vs, rfl, e2, e3⟩ := h.get h1
    refine ⟨a, vs, rfl, SqL.of e2, fun p H' np s' hp => ?_⟩
    obtain ⟨o, hp, _⟩ := hp
    exact k _ H' (w.same s') s' ⟨p, vs, rfl, .inr (.inl ⟨o, w.new np hp⟩), e3.same s'⟩
theorem cd_list {es : List D} (h : SqOf d es) : CaD K (rListOfS K) [d] (.im (.lst es)) := fun M H w xs hx Q k => by
  cases hx with
  | cons h1 h2 =>
    cases h2
    obtain ⟨a, vs, rfl, e2, e3⟩ := h.get h1
    exact ⟨a, vs, rfl, e2, fun p H' np s' hp => k _ H' (w.same s') s' ⟨p, vs, rfl, w.new np hp, e3.same s'⟩⟩
/-! ### in, flat -/
theorem inV_strs (x : Str) : ∀ xs : List Str, inV (.str x) (xs.map V.str) = decide (x ∈ xs)
  | [] => rfl
  | y :: ys => by
    show (eqV (.str y) (.str x) || inV (.str x) (ys.map V.str)) = _
    rw [inV_strs x ys]
    show ((y == x) || decide (x ∈ ys)) = _
    by_cases h : y = x
    · simp [h]
    · have : ¬ x = y := fun e => h e.symm
      simp [h, this]
theorem flat_strs' : ∀ rs : List Str, (rs.map V.str).all flatV = true
  | [] => rfl
  | r :: rs => by rw [List.map_cons, List.all_cons, flat_strs' rs]; rfl
theorem od_inS {x : Str} {xs : List Str} (h : SqOf d (xs.map .str)) : OpD K (rIn K false) (.im (.str x)) d (.im (.bl (decide (x ∈ xs)))) := fun M H w u y hu hy Q k => by
  cases hu
  obtain ⟨a, vs, rfl, e2, e3⟩ := h.get hy
  cases e3.strs
  refine ⟨a, _, rfl, e2, rfl, flat_strs' xs, ?_⟩
  rw [inV_strs]
  exact k _ H w (Same.refl _) rfl
theorem od_ninS {x : Str} {xs : List Str} (h : SqOf d (xs.map .str)) : OpD K (rIn K true) (.im (.str x)) d (.im (.bl (!decide (x ∈ xs)))) := fun M H w u y hu hy Q k => by
  cases hu
  obtain ⟨a, vs, rfl, e2, e3⟩ := h.get hy
  cases e3.strs
  refine ⟨a, _, rfl, e2, rfl, flat_strs' xs, ?_⟩
  rw [inV_strs]
  exact k _ H w (Same.refl _) rfl
/-! ### texts -/
theorem md_rpart {x y : Str} (hy : (y.length == 0) = false) (hz : x.length ≤ sizeLine) : MtD K rRpart (.im (.str x)) [.im (.str y)] (.im (.tup [.str (Txt.rpartition x y).1, .str (Txt.rpartition x y).2.1, .str (Txt.rpartition x y).2.2])) := fun M H w u us hu hus Q k => by
  cases hu
  cases hus with
  | cons h1 h2 =>
    cases h2
    cases h1
    exact ⟨x, y, rfl, rfl, hy, hz, fun p H' np s' hp => k _ H' (w.same s') s' ⟨p, _, rfl, .inl (w.new np hp), ⟨_, _, rfl, rfl, _, _, rfl, rfl, _, _, rfl, rfl, rfl⟩⟩⟩
theorem md_count {x y : Str} : MtD K (fun x xs H Q => ∃ a b, x = .str a ∧ xs = [.str b] ∧ Q (.int (Txt.count a b)) H) (.im (.str x)) [.im (.str y)] (.im (.int (Txt.count x y))) := fun M H w u us hu hus Q k => by
  cases hu
  cases hus with
  | cons h1 h2 =>
    cases h2
    cases h1
    exact ⟨x, y, rfl, rfl, k _ H w (Same.refl _) rfl⟩
theorem ev_slS {z : Str} {lo hi : Option Int} {tl th : TO} (hz : z.length ≤ sizeLine) (he : EV K M σ H t (.im (.str z))) (hl : EVO M σ H tl lo) (hh : EVO M σ H th hi) :
    EV K M σ H (tSl rSlS t tl th) (.im (.str (cutS z lo hi))) := fun M' H1 w s Q k =>
  he M' H1 w s _ fun v H2 w2 s2 hv => hl M' H2 w2 (s.sm s2) _ fun H3 w3 s3 => hh M' H3 w3 ((s.sm s2).sm s3) _ fun H4 w4 s4 => ⟨z, hv, hz, k _ H4 w4 ((s2.trans s3).trans s4) rfl⟩
def cutD {α : Type} (xs : List α) (lo hi : Option Int) : List α := (xs.drop (HT.sIx xs.length 0 lo)).take (HT.sIx xs.length xs.length hi - HT.sIx xs.length 0 lo)
theorem ev_slL {es : List D} {lo hi : Option Int} {tl th : TO} (hd : LsOf d es) (he : EV K M σ H t d) (hl : EVO M σ H tl lo) (hh : EVO M σ H th hi) :
    EV K M σ H (tSl (rSlLS K) t tl th) (.im (.lst (cutD es lo hi))) := fun M' H1 w s Q k =>
  he M' H1 w s _ fun v H2 w2 s2 hv => hl M' H2 w2 (s.sm s2) _ fun H3 w3 s3 => hh M' H3 w3 ((s.sm s2).sm s3) _ fun H4 w4 s4 => by
    obtain ⟨a, vs, rfl, e2, e3⟩ := hd.get ((hv.same s3).same s4)
    refine ⟨a, vs, rfl, SqL.of e2, fun p H5 np s5 hp => k _ H5 (w4.same s5) (((s2.trans s3).trans s4).trans s5) ⟨p, _, rfl, w4.new np hp, ?_⟩⟩
    unfold cutV cutD
    rw [e3.len]
    exact ((e3.drop _).take _).same s5
theorem cutD_map {α β : Type} (g : α → β) (xs : List α) (lo hi : Option Int) : cutD (xs.map g) lo hi = (cutD xs lo hi).map g := by
  unfold cutD
  rw [List.length_map, List.map_take, List.map_drop]
theorem evo_none : EVO M σ H tNoPart none := fun M' H1 w s Q k => k H1 w (Same.refl _)
theorem evo_some {i : Int} (h : EV K M σ H t (.im (.int i))) : EVO M σ H (tPart t) (some i) := fun M' H1 w s Q k => h M' H1 w s _ fun v H2 w2 s2 hv => ⟨i, hv, k H2 w2 s2⟩
theorem cd_int {i : Int} : CaD K (fun xs H Q => (∃ i : Int, xs = [.int i] ∧ Q (.int i) H) ∨ ∃ k : Bool, xs = [.bl k] ∧ Q (.int (if k then 1 else 0)) H) [.im (.int i)] (.im (.int i)) := fun M H w xs hx Q k => by
  cases hx with
  | cons h1 h2 =>
    cases h2
    cases h1
    exact .inl ⟨i, rfl, k _ H w (Same.refl _) rfl⟩
theorem cd_intB {i : Bool} : CaD K (fun xs H Q => (∃ i : Int, xs = [.int i] ∧ Q (.int i) H) ∨ ∃ k : Bool, xs = [.bl k] ∧ Q (.int (if k then 1 else 0)) H) [.im (.bl i)] (.im (.int (if i then 1 else 0))) := fun M H w xs hx Q k => by
  cases hx with
  | cons h1 h2 =>
    cases h2
    cases h1
    exact .inr ⟨i, rfl, k _ H w (Same.refl _) rfl⟩
theorem cd_strI {i : Int} (h : i.natAbs.log2 < 1920) : CaD K rStrI [.im (.int i)] (.im (.str (toString i))) := fun M H w xs hx Q k => by
  cases hx with
  | cons h1 h2 =>
    cases h2
    cases h1
    exact ⟨i, rfl, h, k _ H w (Same.refl _) rfl⟩
end
/-! ### what is walked -/
def YD (K : PySem.W.Frag) (M : Addr → Prop) (H0 : Hp) (ds : List D) (i : Nat) (H : Hp) (x : V) (H' : Hp) : Prop := Same H H' ∧ ∃ d, ds[i]? = some d ∧ ∀ M', Wd M' H → Lx M M' H0 H → rD K (Fx M' H') d x
/-- what must stand while it is walked -/
def GI (M : Addr → Prop) (H H' : Hp) : Prop := ∃ M', Lx M M' H H'
def GL (L : Addr) (M : Addr → Prop) (H H' : Hp) : Prop := (∃ M', Lx M M' H H') ∧ ∀ o, H L = some o → H' L = some o
def EVI (K : PySem.W.Frag) (M : Addr → Prop) (σ : L2.St) (H : Hp) (wi : TI) (G : (Addr → Prop) → Hp → Hp → Prop) (ds : List D) : Prop :=
  ∀ M' H1, Wd M' H1 → Ex M M' H H1 → ∀ R : It → Hp → Prop, (∀ J H2, Wd M' H2 → Same H1 H2 → Walk J ds.length (G M' H2) (YD K M' H2 ds) → R J H2) → wi σ H1 R
section
variable {K : PySem.W.Frag} {M : Addr → Prop} {σ : L2.St} {H H' : Hp} {t ta tb tc : TE} {tt tu : TT} {tA : TA} {d e f : DV} {wi : TI} {G : (Addr → Prop) → Hp → Hp → Prop} {es : List D}
theorem GI.ex {M M' : Addr → Prop} (x : Ex M M' H H') : GI M H H' := ⟨M', x.lx⟩
theorem GL.ex {L : Addr} {M M' : Addr → Prop} (x : Ex M M' H H') : GL L M H H' := ⟨⟨M', x.lx⟩, fun o h => x.s _ _ h⟩
theorem EVI.go (h : EVI K M σ H wi G es) (w : Wd M H) {R : It → Hp → Prop} (k : ∀ J H2, Wd M H2 → Same H H2 → Walk J es.length (G M H2) (YD K M H2 es) → R J H2) : wi σ H R := h M H w Ex.refl R k
theorem evi_list (h : EV K M σ H t (.im (.lst es))) : EVI K M σ H (iList K t) GI es := fun M' H1 w s R k => h M' H1 w s _ fun v H2 w2 s2 hv => by
  obtain ⟨a, vs, rfl, h2, h3⟩ := hv
  refine ⟨a, rfl, ⟨_, SqL.of h2.1⟩, k _ H2 w2 s2 ?_⟩
  rw [← h3.len]
  refine walk_list.mono (fun H' g => SqL.of (g.choose_spec _ _ h2).1) fun i H' x H'' hi g y => ?_
  obtain ⟨e1, e2⟩ := y
  obtain ⟨d, hd, hr⟩ := h3.get e2
  rw [e1]
  exact ⟨Same.refl _, d, hd, fun M2 _ l => rD.mono l d x hr⟩
theorem evi_mu {L : Addr} (h : EV K M σ H t (.mu L es)) : EVI K M σ H (iList K t) (GL L) es := fun M' H1 w s R k => h M' H1 w s _ fun v H2 w2 s2 hv => by
  obtain ⟨rfl, vs, h2, h3⟩ := hv
  refine ⟨L, rfl, ⟨_, SqL.of h2⟩, k _ H2 w2 s2 ?_⟩
  rw [← h3.len]
  refine walk_list.mono (fun H' g => SqL.of (g.2 _ h2)) fun i H' x H'' hi g y => ?_
  obtain ⟨e1, e2⟩ := y
  obtain ⟨d, hd, hr⟩ := h3.get e2
  rw [e1]
  exact ⟨Same.refl _, d, hd, fun M2 _ l => rD.mono l d x hr⟩
theorem evi_tup (h : EV K M σ H t (.im (.tup es))) : EVI K M σ H (iTup K t) GI es := fun M' H1 w s R k => h M' H1 w s _ fun v H2 w2 s2 hv => by
  obtain ⟨a, vs, rfl, h2, h3⟩ := hv
  refine ⟨a, rfl, ⟨_, h2.sq⟩, k _ H2 w2 s2 ?_⟩
  rw [← h3.len]
  refine walk_tup.mono (fun H' g => (h2.mono g.choose_spec).sq) fun i H' x H'' hi g y => ?_
  obtain ⟨e1, e2⟩ := y
  obtain ⟨d, hd, hr⟩ := h3.get e2
  rw [e1]
  exact ⟨Same.refl _, d, hd, fun M2 _ l => rD.mono l d x hr⟩
/-- lo .. hi - 1 -/
def rngI (lo hi : Int) : List Int := (List.range (hi - lo).toNat).map fun (i : Nat) => lo + (i : Int)
theorem rngI_len (lo hi : Int) : (rngI lo hi).length = (hi - lo).toNat := by unfold rngI; rw [List.length_map, List.length_range]
theorem rngI_mem {lo hi x : Int} : x ∈ rngI lo hi ↔ lo ≤ x ∧ x < hi := by
  unfold rngI
  rw [List.mem_map]
  constructor
  · rintro ⟨i, hi, rfl⟩
    have := List.mem_range.mp hi
    omega
  · intro h
    exact ⟨(x - lo).toNat, List.mem_range.mpr (by omega), by omega⟩
theorem rngI_get {lo hi : Int} {i : Nat} (h : i < (hi - lo).toNat) : (rngI lo hi)[i]? = some (lo + i) := by
  unfold rngI
  rw [List.getElem?_map, List.getElem?_range h]
  rfl
theorem evi_range1 {n : Int} (h : EVA K M σ H tA [.im (.int n)]) (n0 : -(2 ^ 62) ≤ n) (n1 : n < 2 ^ 62) : EVI K M σ H (iRng1 tA) GI ((rngI 0 n).map .int) := fun M' H1 w s R k => h M' H1 w s _ fun vs H2 w2 s2 hv => by
  cases hv with
  | cons h1 h2 =>
    cases h2
    cases h1
    refine ⟨n, rfl, n0, n1, k _ H2 w2 s2 ?_⟩
    have hl : ((rngI 0 n).map D.int).length = n.toNat := by rw [List.length_map, rngI_len, Int.sub_zero]
    rw [hl]
    refine walk_range.mono (fun _ _ => True.intro) fun i H' x H'' hi g y => ?_
    obtain ⟨e1, e2⟩ := y
    rw [e1]
    refine ⟨Same.refl _, .int (0 + (i : Int)), ?_, fun _ _ _ => e2⟩
    rw [List.getElem?_map, rngI_get (by omega)]
    rfl
theorem evi_range2 {m n : Int} (h : EVA K M σ H tA [.im (.int m), .im (.int n)]) (hb : -(2 ^ 62) ≤ m ∧ m < 2 ^ 62 ∧ -(2 ^ 62) ≤ n ∧ n < 2 ^ 62) : EVI K M σ H (iRng2 tA) GI ((rngI m n).map .int) := fun M' H1 w s R k => h M' H1 w s _ fun vs H2 w2 s2 hv => by
  cases hv with
  | cons h1 h2 =>
    cases h2 with
    | cons h2 h3 =>
      cases h3
      cases h1
      cases h2
      refine ⟨m, n, rfl, hb, k _ H2 w2 s2 ?_⟩
      have hl : ((rngI m n).map D.int).length = (n - m).toNat := by rw [List.length_map, rngI_len]
      rw [hl]
      refine walk_range.mono (fun _ _ => True.intro) fun i H' x H'' hi g y => ?_
      obtain ⟨e1, e2⟩ := y
      rw [e1]
      refine ⟨Same.refl _, .int (m + (i : Int)), ?_, fun _ _ _ => e2⟩
      rw [List.getElem?_map, rngI_get (by omega)]
      rfl
/-! targets -/
theorem g_tup2 {i j : Nat} {d1 d2 : D} {x : V} {Q : L2.St → Hp → Prop} (h : rD K (Fx M H) (.tup [d1, d2]) x) (k : ∀ v1 v2, rD K (Fx M H) d1 v1 → rD K (Fx M H) d2 v2 → Q ((σ.set i (some v1)).set j (some v2)) H) :
    gTup K 2 (gCons (gName i) (gCons (gName j) gNil)) x σ H Q := by
  obtain ⟨a, vs, rfl, h2, v1, _, rfl, r1, v2, _, rfl, r2, rfl⟩ := h
  exact ⟨a, _, rfl, h2.sq, rfl, v1, _, rfl, v2, _, rfl, rfl, k v1 v2 r1 r2⟩
theorem g_tup3 {i j l : Nat} {d1 d2 d3 : D} {x : V} {Q : L2.St → Hp → Prop} (h : rD K (Fx M H) (.tup [d1, d2, d3]) x) (k : ∀ v1 v2 v3, rD K (Fx M H) d1 v1 → rD K (Fx M H) d2 v2 → rD K (Fx M H) d3 v3 → Q (((σ.set i (some v1)).set j (some v2)).set l (some v3)) H) :
    gTup K 3 (gCons (gName i) (gCons (gName j) (gCons (gName l) gNil))) x σ H Q := by
  obtain ⟨a, vs, rfl, h2, v1, _, rfl, r1, v2, _, rfl, r2, v3, _, rfl, r3, rfl⟩ := h
  exact ⟨a, _, rfl, h2.sq, rfl, v1, _, rfl, v2, _, rfl, v3, _, rfl, rfl, k v1 v2 v3 r1 r2 r3⟩
/-! ### comprehensions -/
/-- the reading of a target asks for no more than what follows -/
def GMono (g : TG) : Prop := ∀ v σ H (Q Q' : L2.St → Hp → Prop), (∀ σ2 H2, Q σ2 H2 → Q' σ2 H2) → g v σ H Q → g v σ H Q'
theorem gm_name {i : Nat} : GMono (gName i) := fun v σ H Q Q' h z => h _ _ z
theorem gm_tup2 {n i j : Nat} : GMono (gTup K n (gCons (gName i) (gCons (gName j) gNil))) := by
  rintro v σ H Q Q' h ⟨a, xs, h1, h2, h3, v1, r1, h4, v2, r2, h5, h6, h7⟩
  exact ⟨a, xs, h1, h2, h3, v1, r1, h4, v2, r2, h5, h6, h _ _ h7⟩
theorem gm_tup3 {n i j l : Nat} : GMono (gTup K n (gCons (gName i) (gCons (gName j) (gCons (gName l) gNil)))) := by
  rintro v σ H Q Q' h ⟨a, xs, h1, h2, h3, v1, r1, h4, v2, r2, h5, v3, r3, h6, h7, h8⟩
  exact ⟨a, xs, h1, h2, h3, v1, r1, h4, v2, r2, h5, v3, r3, h6, h7, h _ _ h8⟩
theorem ev_lcf {α : Type} {xs : List α} {en : α → D} {p : α → Bool} {f : α → D} {g : TG} {vs : List Nat} (hi : EVI K M σ H wi G (xs.map en)) (hG : ∀ {M M' : Addr → Prop} {H H' : Hp}, Ex M M' H H' → G M H H') (hg : GMono g) (hz : xs.length ≤ sizeLine)
    (hb : ∀ x ∈ xs, ∀ M' H' v, Wd M' H' → Ex M M' H H' → rD K (Fx M' H') (en x) v → g v (wipe σ vs) H' fun σ2 H2 => H2 = H' ∧ wipe σ2 vs = wipe σ vs ∧ EVT M' σ2 H' tt (p x) ∧ (p x = true → EV K M' σ2 H' t (.im (f x)))) :
    EV K M σ H (tLc wi g tt t vs) (.im (.lst ((xs.filter p).map f))) := fun M1 H1 w s Q k => hi M1 H1 w s _ fun J H2 w2 s2 wk D nD => by
  have mD : ¬ M1 D := w2.free nD
  have sD : Same H2 (L2.upd H2 D (.lst [])) := Same.new nD
  refine lc_it wk (fun i H' => Wd (adM M1 D) H' ∧ Ex M1 (adM M1 D) H2 H' ∧ ∃ ws, H' D = some (.lst ws) ∧ rDs K (Fx (adM M1 D) H') (((xs.take i).filter p).map f) ws)
    ⟨(w2.same sD).add (by rw [upd_same]; exact fun z => nomatch z), Ex.add sD nD, [], upd_same, rfl⟩ (fun i H' _ z => hG z.2.1) ?_ ?_
  · rintro i x H3 H4 hi' ⟨w3, s3, ws, hD, hws⟩ ⟨s4, d, hd, hr⟩
    rw [List.getElem?_map] at hd
    obtain ⟨y, hy, rfl⟩ := Option.map_eq_some_iff.mp hd
    have hr := hr _ w3 s3.lx
    have w4 := w3.same s4
    have s24 := s3.sm s4
    have tk : xs.take (i + 1) = xs.take i ++ [y] := by rw [List.take_add_one, hy]; rfl
    have hl : ((xs.take i).filter p).length < sizeLine := by
      have h1 := List.length_filter_le p (xs.take i)
      have h2 := (List.getElem?_eq_some_iff.mp hy).1
      rw [List.length_take] at h1
      omega
    refine hg _ _ _ _ _ ?_ (hb y (List.mem_of_getElem? hy) _ H4 x w4 ((s.sm s2).trans s24) hr)
    rintro σ2 H5 ⟨rfl, hw, ht, he⟩
    refine ⟨hw, ht _ H5 w4 Ex.refl _ fun H6 w6 s6 => ?_⟩
    cases hp : p y with
    | true =>
      refine iteT ?_
      refine he hp _ H6 w6 (Ex.same s6) _ fun v H7 w7 s7 hv => ?_
      have s47 : Same H5 H7 := s6.trans s7
      have hD7 := s47 _ _ (s4 _ _ hD)
      have hws7 := (hws.same s4).same s47
      have lu : Lx (adM M1 D) (adM M1 D) H7 (L2.upd H7 D (.lst (ws ++ [v]))) := Lx.upd (.inr rfl)
      refine ⟨ws, hD7, by rw [hws.len, List.length_map]; exact hl, w7.upd, ⟨fun q o h => ?_, s24.u, s24.n⟩, ws ++ [v], upd_same, ?_⟩
      · rw [upd_ne (ne_of_none h nD)]
        exact s47 _ _ (s24.s _ _ h)
      · rw [tk, List.filter_append, List.map_append]
        have e1 : [y].filter p = [y] := by simp [hp]
        rw [e1]
        exact (rDs.mono lu _ _ hws7).append (rDs.one (rD.mono lu _ _ hv))
    | false =>
      refine iteF ?_
      refine ⟨w6, s24.sm s6, ws, s6 _ _ (s4 _ _ hD), ?_⟩
      rw [tk, List.filter_append, List.map_append]
      have e1 : [y].filter p = [] := by simp [hp]
      rw [e1, List.map_nil, List.append_nil]
      exact (hws.same s4).same s6
  · rintro H3 ⟨w3, s3, ws, hD, hws⟩
    rw [List.length_map, List.take_length] at hws
    exact k _ H3 (fun q hq => w3 q (.inl hq)) (s2.trans s3.s) ⟨D, ws, rfl, ⟨hD, mD⟩, rDs.mono Lx.del _ _ hws⟩
theorem ev_lcm {α : Type} {xs : List α} {en : α → D} {f : α → D} {g : TG} {vs : List Nat} (hi : EVI K M σ H wi G (xs.map en)) (hG : ∀ {M M' : Addr → Prop} {H H' : Hp}, Ex M M' H H' → G M H H') (hg : GMono g) (hz : xs.length ≤ sizeLine)
    (hb : ∀ x ∈ xs, ∀ M' H' v, Wd M' H' → Ex M M' H H' → rD K (Fx M' H') (en x) v → g v (wipe σ vs) H' fun σ2 H2 => H2 = H' ∧ wipe σ2 vs = wipe σ vs ∧ EV K M' σ2 H' t (.im (f x))) :
    EV K M σ H (tLc wi g tYes t vs) (.im (.lst (xs.map f))) := by
  have := ev_lcf (tt := tYes) (p := fun _ => true) (f := f) hi hG hg hz fun x hx M' H' v w' s' hv => hg _ _ _ _ _ (fun σ2 H2 z => ⟨z.1, z.2.1, evt_yes, fun _ => z.2.2⟩) (hb x hx M' H' v w' s' hv)
  rw [List.filter_eq_self.mpr (fun _ _ => rfl)] at this
  exact this
end
end Lf

set_option Elab.async false
set_option linter.all false
set_option maxRecDepth 100000
set_option maxHeartbeats 4000000
/-! Statements by data; specs of defs by data. -/
namespace Lf
open PySem PySem.Spec PyProof.Rows L2
section
variable {α β γ δ : Type}
def eL (f : α → D) (xs : List α) : D := .lst (xs.map f)
def eT (f : α → D) (xs : List α) : D := .tup (xs.map f)
def eP2 (f : α → D) (g : β → D) (p : α × β) : D := .tup [f p.1, g p.2]
def eP3 (f : α → D) (g : β → D) (h : γ → D) (p : α × β × γ) : D := .tup [f p.1, g p.2.1, h p.2.2]
def eP4 (f : α → D) (g : β → D) (h : γ → D) (k : δ → D) (p : α × β × γ × δ) : D := .tup [f p.1, g p.2.1, h p.2.2.1, k p.2.2.2]
def eH2 (f : α → D) (g : β → D) (p : α × β) : D := .lst [f p.1, g p.2]
def eH3 (f : α → D) (g : β → D) (h : γ → D) (p : α × β × γ) : D := .lst [f p.1, g p.2.1, h p.2.2]
def eU (_ : Unit) : D := .non
def eO (f : α → D) : Option α → D
  | none => .non
  | some x => f x
end
/-! ### the world of a def: M0 what may change around it, Ls its own lists, Y what it may change of the caller's -/
def Bu (Y : List Addr) (H H' : Hp) : Prop := ∀ q o, H q = some o → q ∉ Y → H' q = some o
theorem Bu.refl {Y : List Addr} {H : Hp} : Bu Y H H := fun _ _ h _ => h
theorem Bu.same {Y : List Addr} {H H' : Hp} (s : Same H H') : Bu Y H H' := fun q o h _ => s q o h
theorem Bu.trans {Y : List Addr} {H H1 H2 : Hp} (a : Bu Y H H1) (b : Bu Y H1 H2) : Bu Y H H2 := fun q o h n => b q o (a q o h n) n
def mxM (M0 : Addr → Prop) (Ls : List Addr) : Addr → Prop := fun q => M0 q ∨ q ∈ Ls
structure Gd (M0 : Addr → Prop) (Ls Y : List Addr) (H0 H : Hp) : Prop where
  wd : Wd (mxM M0 Ls) H
  bu : Bu Y H0 H
  nw : ∀ L ∈ Ls, H0 L = none
  nd : Ls.Nodup
  w0 : Wd M0 H0
  ys : ∀ y ∈ Y, M0 y
theorem nd_ne {Ls : List Addr} {a b : Addr} (nd : Ls.Nodup) (i j : Nat) (hi : Ls[i]? = some a) (hj : Ls[j]? = some b) (h : i ≠ j) : a ≠ b := fun e => by
  subst e
  exact h ((List.getElem?_inj (List.getElem?_eq_some_iff.mp hi).1 nd).mp (hi.trans hj.symm))
section
variable {M0 : Addr → Prop} {Ls Y : List Addr} {H0 H H1 H2 : Hp} {K : PySem.W.Frag}
theorem Gd.same (g : Gd M0 Ls Y H0 H) (s : Same H H1) : Gd M0 Ls Y H0 H1 := ⟨g.wd.same s, g.bu.trans (Bu.same s), g.nw, g.nd, g.w0, g.ys⟩
theorem Gd.start (w : Wd M0 H) (ys : ∀ y ∈ Y, M0 y) : Gd M0 [] Y H H := ⟨fun q h => h.elim (fun h => w q h) (fun h => nomatch h), Bu.refl, fun L h => (nomatch h), List.nodup_nil, w, ys⟩
/-- a new list of one's own -/
theorem Gd.new {L : Addr} {o : HO} (g : Gd M0 Ls Y H0 H) (s : Same H H1) (n : H L = none) (h : H1 L = some o) : Gd M0 (L :: Ls) Y H0 H1 := by
  refine ⟨fun q hq => ?_, g.bu.trans (Bu.same s), fun q hq => ?_, List.nodup_cons.mpr ⟨fun hm => g.wd L (.inr hm) n, g.nd⟩, g.w0, g.ys⟩
  · rcases hq with hq | hq
    · exact (g.wd.same s) q (.inl hq)
    · rcases List.mem_cons.mp hq with rfl | hq
      · rw [h]; exact fun z => nomatch z
      · exact (g.wd.same s) q (.inr hq)
  · rcases List.mem_cons.mp hq with rfl | hq
    · cases e : H0 q with
      | none => rfl
      | some u =>
        by_cases hy : q ∈ Y
        · exact absurd n (g.wd q (.inl (g.ys q hy)))
        · rw [g.bu q u e hy] at n; cases n
    · exact g.nw q hq
theorem Gd.upd {L : Addr} {o : HO} (g : Gd M0 Ls Y H0 H) (h : L ∈ Ls) : Gd M0 Ls Y H0 (L2.upd H L o) := ⟨g.wd.upd, fun q u e n => by rw [upd_ne (ne_of_none e (g.nw L h))]; exact g.bu q u e n, g.nw, g.nd, g.w0, g.ys⟩
theorem Gd.call (g : Gd M0 Ls Y H0 H) (w : Wd (mxM M0 Ls) H1) (b : Bu Y H H1) : Gd M0 Ls Y H0 H1 := ⟨w, g.bu.trans b, g.nw, g.nd, g.w0, g.ys⟩
theorem Gd.sub {Ls' : List Addr} (g : Gd M0 Ls Y H0 H) (s : Ls'.Sublist Ls) : Gd M0 Ls' Y H0 H := ⟨fun q h => g.wd q (h.elim .inl fun h => .inr (s.subset h)), g.bu, fun L h => g.nw L (s.subset h), g.nd.sublist s, g.w0, g.ys⟩
theorem Gd.lx_sub {Ls' : List Addr} (s : ∀ x ∈ Ls', x ∈ Ls) : Lx (mxM M0 Ls) (mxM M0 Ls') H H := fun q o h => ⟨h.1, fun z => h.2 (z.elim .inl fun z => .inr (s q z))⟩
theorem Gd.lx_end : Lx (mxM M0 Ls) M0 H H := fun q o h => ⟨h.1, fun z => h.2 (.inl z)⟩
theorem Gd.ex_new {L : Addr} (s : Same H H1) (n : H L = none) : Ex (mxM M0 Ls) (mxM M0 (L :: Ls)) H H1 := ⟨s, fun q h => h.elim .inl fun h => .inr (List.mem_cons_of_mem _ h), fun q h => by
  rcases h with h | h
  · exact .inl (.inl h)
  · rcases List.mem_cons.mp h with rfl | h
    · exact .inr n
    · exact .inl (.inr h)⟩
theorem Gd.lx_upd {L : Addr} {o : HO} (h : L ∈ Ls) : Lx (mxM M0 Ls) (mxM M0 Ls) H (L2.upd H L o) := Lx.upd (.inr h)
theorem Gd.lx_call (g : Gd M0 Ls Y H0 H) (b : Bu Y H H1) : Lx (mxM M0 Ls) (mxM M0 Ls) H H1 := fun q o h => ⟨b q o h.1 (fun hy => h.2 (.inl (g.ys q hy))), h.2⟩
/-- one's own list is none of the caller's -/
theorem Gd.no (g : Gd M0 Ls Y H0 H) {L : Addr} (h : L ∈ Ls) : ¬ M0 L := g.w0.free (g.nw L h)
theorem Gd.noY (g : Gd M0 Ls Y H0 H) {L : Addr} (h : L ∈ Ls) : L ∉ Y := fun z => g.no h (g.ys L z)
theorem rV.lx {M M' : Addr → Prop} (l : Lx M M' H H1) {d : D} {v : V} (h : rV K M H (.im d) v) : rV K M' H1 (.im d) v := rD.mono l d v h
/-- own lists and dicts -/
def DV.ad : DV → Option Addr
  | .im _ => none
  | .mu L _ => some L
  | .md L _ => some L
theorem mu_upd {L L' : Addr} {x : DV} {v : V} {o : HO} (h : rV K (mxM M0 Ls) H x v) (e : x.ad = some L) (n : L ≠ L') (hL : L' ∈ Ls) : rV K (mxM M0 Ls) (L2.upd H L' o) x v := by
  cases x with
  | im d => cases e
  | mu L ds =>
    cases e
    obtain ⟨h1, vs, h2, h3⟩ := h
    exact ⟨h1, vs, by rw [upd_ne n]; exact h2, rDs.mono (Gd.lx_upd hL) _ _ h3⟩
  | md L ds =>
    cases e
    obtain ⟨h1, vs, h2, h0, h3⟩ := h
    exact ⟨h1, vs, by rw [upd_ne n]; exact h2, h0, rDs.mono (Gd.lx_upd hL) _ _ h3⟩
theorem mu_call {L : Addr} {x : DV} {v : V} (h : rV K (mxM M0 Ls) H x v) (e : x.ad = some L) (g : Gd M0 Ls Y H0 H) (hL : L ∈ Ls) (b : Bu Y H H1) : rV K (mxM M0 Ls) H1 x v := by
  cases x with
  | im d => cases e
  | mu L ds =>
    cases e
    obtain ⟨h1, vs, h2, h3⟩ := h
    exact ⟨h1, vs, b _ _ h2 (g.noY hL), rDs.mono (g.lx_call b) _ _ h3⟩
  | md L ds =>
    cases e
    obtain ⟨h1, vs, h2, h0, h3⟩ := h
    exact ⟨h1, vs, b _ _ h2 (g.noY hL), h0, rDs.mono (g.lx_call b) _ _ h3⟩
theorem mu_sub {Ls' : List Addr} {x : DV} {v : V} (h : rV K (mxM M0 Ls) H x v) (s : ∀ x ∈ Ls', x ∈ Ls) : rV K (mxM M0 Ls') H x v := by
  cases x with
  | im d => exact rD.mono (Gd.lx_sub s) _ _ h
  | mu L ds =>
    obtain ⟨h1, vs, h2, h3⟩ := h
    exact ⟨h1, vs, h2, rDs.mono (Gd.lx_sub s) _ _ h3⟩
  | md L ds =>
    obtain ⟨h1, vs, h2, h0, h3⟩ := h
    exact ⟨h1, vs, h2, h0, rDs.mono (Gd.lx_sub s) _ _ h3⟩
/-- one's own list is given away -/
theorem mu_ret {L : Addr} {ds : List D} {v : V} (h : rV K (mxM M0 Ls) H (.mu L ds) v) (g : Gd M0 Ls Y H0 H) (hL : L ∈ Ls) : rD K (Fx M0 H) (.lst ds) v := by
  obtain ⟨h1, vs, h2, h3⟩ := h
  exact ⟨L, vs, h1, ⟨h2, g.no hL⟩, rDs.mono Gd.lx_end _ _ h3⟩
theorem mu_frz {Ls' : List Addr} {L : Addr} {ds : List D} {v : V} (h : rV K (mxM M0 Ls) H (.mu L ds) v) (g : Gd M0 Ls Y H0 H) (hL : L ∈ Ls) (n : L ∉ Ls') (s : ∀ x ∈ Ls', x ∈ Ls) : rV K (mxM M0 Ls') H (.im (.lst ds)) v := by
  obtain ⟨h1, vs, h2, h3⟩ := h
  exact ⟨L, vs, h1, ⟨h2, fun z => z.elim (g.no hL) n⟩, rDs.mono (Gd.lx_sub s) _ _ h3⟩
end
/-! ### specs of defs by data -/
section
variable {α ρ : Type}
/-- a function of data -/
def spF (K : PySem.W.Frag) (ens : α → List D) (er : ρ → D) (pre : α → Prop) (F : α → ρ) : Sp := fun vs H Q _ => ∃ (M : Addr → Prop) (x : α), Wd M H ∧ rDs K (Fx M H) (ens x) vs ∧ pre x ∧ ∀ v H2, Wd M H2 → Same H H2 → rD K (Fx M H2) (er (F x)) v → Q v H2
/-- what is given is told by S -/
def spP (K : PySem.W.Frag) (ens : α → List D) (er : ρ → D) (S : α → (ρ → Prop) → Prop) : Sp := fun vs H Q _ => ∃ (M : Addr → Prop) (x : α) (P : ρ → Prop), Wd M H ∧ rDs K (Fx M H) (ens x) vs ∧ S x P ∧ ∀ r v H2, P r → Wd M H2 → Same H H2 → rD K (Fx M H2) (er r) v → Q v H2
/-- with a state that changes -/
def spS (SM : Hp → Addr → List Addr → Nat → Prop) (K : PySem.W.Frag) (ens : α → List D) (er : ρ → D) (S : Nat → α → (ρ → Nat → Prop) → Prop) : Sp := fun vs H Q _ => ∃ (M : Addr → Prop) (st : Addr) (Y : List Addr) (n : Nat) (x : α) (us : List V) (P : ρ → Nat → Prop),
  vs = .ref st :: us ∧ Wd M H ∧ (∀ y ∈ Y, M y) ∧ SM H st Y n ∧ rDs K (Fx M H) (ens x) us ∧ S n x P ∧ ∀ r v n' H2, P r n' → Wd M H2 → Bu Y H H2 → SM H2 st Y n' → rD K (Fx M H2) (er r) v → Q v H2
def DV.fr : DV → D
  | .im d => d
  | .mu _ ds => .lst ds
  | .md L _ => .rf L
variable {K : PySem.W.Frag} {M : Addr → Prop} {H : Hp}
theorem rVs.fr : ∀ {ds : List DV} {vs : List V}, rVs K M H ds vs → rDs K (Fx (fun q => M q ∧ ∀ L es, DV.mu L es ∈ ds → q ≠ L) H) (ds.map DV.fr) vs := by
  have key : ∀ {ds : List DV} {vs : List V} (A : List DV), rVs K M H ds vs → (∀ x ∈ ds, x ∈ A) → rDs K (Fx (fun q => M q ∧ ∀ L es, DV.mu L es ∈ A → q ≠ L) H) (ds.map DV.fr) vs := by
    intro ds
    induction ds with
    | nil =>
      intro vs A h _
      cases h
      rfl
    | cons d ds ih =>
      intro vs A h hA
      cases h with
      | cons h1 h2 =>
        have l : Lx M (fun q => M q ∧ ∀ L es, DV.mu L es ∈ A → q ≠ L) H H := fun q o z => ⟨z.1, fun y => z.2 y.1⟩
        refine ⟨_, _, rfl, ?_, ih A h2 fun x hx => hA x (List.mem_cons_of_mem _ hx)⟩
        cases d with
        | im d => exact rD.mono l _ _ h1
        | md L es => exact h1.1
        | mu L es =>
          obtain ⟨e1, ws, e2, e3⟩ := h1
          exact ⟨L, ws, e1, ⟨e2, fun y => y.2 L es (hA _ (List.mem_cons_self ..)) rfl⟩, rDs.mono l _ _ e3⟩
  intro ds vs h
  exact key ds h fun x hx => hx
theorem cd_fn {ens : α → List D} {er : ρ → D} {pre : α → Prop} {F : α → ρ} {E : XK} (x : α) (hp : pre x) : CaD K (fun vs H Q => spF K ens er pre F vs H Q E) ((ens x).map .im) (.im (er (F x))) := fun M H w xs hx Q k => ⟨M, x, w, hx.ims, hp, fun v H2 w2 s2 hv => k v H2 w2 s2 hv⟩
/-- the same of lists of one's own that are only read; what is given has no parts -/
theorem cd_fnS {ens : α → List D} {er : ρ → D} {pre : α → Prop} {F : α → ρ} {E : XK} {ds : List DV} (x : α) (e : ds.map DV.fr = ens x) (hp : pre x) (hs : ∀ R R' v, rD K R (er (F x)) v → rD K R' (er (F x)) v) : CaD K (fun vs H Q => spF K ens er pre F vs H Q E) ds (.im (er (F x))) := fun M H w xs hx Q k =>
  ⟨fun q => M q ∧ ∀ L es, DV.mu L es ∈ ds → q ≠ L, x, fun q hq => w q hq.1, by rw [← e]; exact hx.fr, hp, fun v H2 w2 s2 hv => k v H2 (w.same s2) s2 (hs _ _ _ hv)⟩
end
/-! ### statements -/
section
variable {t te ta tb : TE} {u c1 c2 : TS} {D : Ends} {σ : L2.St} {H : Hp} {i : Nat} {tt : TT} {wi : TI} {g : TG} {r : R2} {tA : TA} {Q : VK} {d : DV} {M : Addr → Prop} {K : PySem.W.Frag} {sp : Sp} {E : XK}
theorem st_set (h : te σ H fun v H2 => u D (σ.set i (some v)) H2) : tSeq (tAsg te (gName i)) u D σ H := h
theorem st_ret (h : te σ H fun v H2 => D.rt v H2) : tSeq (tRet te) u D σ H := h
theorem st_expr (h : te σ H fun _ H2 => u D σ H2) : tSeq (tDrop te) u D σ H := h
theorem st_if (h : tt σ H fun b H1 => if b = true then c1 { D with nx := u D } σ H1 else c2 { D with nx := u D } σ H1) : tSeq (tIfS tt c1 c2) u D σ H := h
theorem if_cut {c : TT} {a b u : TS} {D : Ends} {σ : L2.St} {H : Hp} (P : L2.St → Hp → Prop) (h1 : ∀ nx' : L2.St → Hp → Prop, (∀ σ' H', P σ' H' → nx' σ' H') → tIfS c a b { D with nx := nx' } σ H) (h2 : ∀ σ' H', P σ' H' → u D σ' H') : tSeq (tIfS c a b) u D σ H := h1 (u D) h2
theorem wite {b : Bool} {A B G1 G2 : Prop} (hw : if b = true then A else B) (h1 : A → G1) (h2 : B → G2) : if b = true then G1 else G2 := by
  cases b with
  | true => exact iteT (h1 (by simpa using hw))
  | false => exact iteF (h2 (by simpa using hw))
/-! steps of effects -/
theorem x_opl (ha : EV K M σ H ta d) (w : Wd M H) (k : ∀ v H2, Wd M H2 → Same H H2 → rV K M H2 d v → tb σ H2 fun y H3 => r v y H3 Q) : tOp r ta tb σ H Q := ha.go w k
/-- an operator at its values -/
def AppR (r : R2) (x y : V) (H : Hp) (Q : VK) : Prop := r x y H Q
theorem x_op (h : ta σ H fun x H1 => tb σ H1 fun y H2 => AppR r x y H2 Q) : tOp r ta tb σ H Q := h
theorem opd_go {d e f : DV} {x y : V} (ho : OpD K r d e f) (w : Wd M H) (hx : rV K M H d x) (hy : rV K M H e y) (k : ∀ v H2, Wd M H2 → Same H H2 → rV K M H2 f v → Q v H2) : AppR r x y H Q := ho M H w x y hx hy Q k
theorem x_call {dvs : List V} (h : tA σ H fun vs H1 => sp (vs ++ dvs) H1 Q E) : tCall sp dvs E tA σ H Q := h
theorem x_cons {Q : List V → Hp → Prop} (h : ta σ H fun x H1 => tA σ H1 fun xs H2 => Q (x :: xs) H2) : tCons ta tA σ H Q := h
theorem x_nil {Q : List V → Hp → Prop} (h : Q [] H) : tNil σ H Q := h
theorem x_test {Q : Bool → Hp → Prop} (h : te σ H fun x H' => ∃ k, x = .bl k ∧ Q k H') : tTest te σ H Q := h
theorem EV.goA {α : Type} {en : α → Lf.D} {x0 : α} (h : EV K M σ H t (.im (en x0))) (w : Wd M H) (k : ∀ x, x = x0 → ∀ v H2, Wd M H2 → Same H H2 → rV K M H2 (.im (en x)) v → Q v H2) : t σ H Q := h.go w (k x0 rfl)
theorem ev_vi {x : Int} (h : σ[i]? = some (some (.int x))) : EV K M σ H (tVar i) (.im (.int x)) := ev_var h rfl
theorem ev_vs {x : Str} (h : σ[i]? = some (some (.str x))) : EV K M σ H (tVar i) (.im (.str x)) := ev_var h rfl
theorem ev_vb {x : Bool} (h : σ[i]? = some (some (.bl x))) : EV K M σ H (tVar i) (.im (.bl x)) := ev_var h rfl
theorem ev_vr {x : Addr} (h : σ[i]? = some (some (.ref x))) : EV K M σ H (tVar i) (.im (.rf x)) := ev_var h rfl
theorem EVI.gom {α : Type} {en : α → Lf.D} {xs : List α} {G : (Addr → Prop) → Hp → Hp → Prop} (h : EVI K M σ H wi G (xs.map en)) (w : Wd M H) {R : It → Hp → Prop} (k : ∀ J H2, Wd M H2 → Same H H2 → Walk J xs.length (G M H2) (YD K M H2 (xs.map en)) → R J H2) : wi σ H R := h.go w fun J H2 w2 s2 wk => k J H2 w2 s2 (by rw [List.length_map] at wk; exact wk)
theorem yd_map {α : Type} {en : α → Lf.D} {xs : List α} {H0 H' : Hp} {j : Nat} {x : V} (h : YD K M H0 (xs.map en) j H x H') : ∃ y, xs[j]? = some y ∧ Same H H' ∧ ∀ M', Wd M' H → Lx M M' H0 H → rD K (Fx M' H') (en y) x := by
  obtain ⟨s, d, hd, hr⟩ := h
  rw [List.getElem?_map] at hd
  obtain ⟨y, hy, rfl⟩ := Option.map_eq_some_iff.mp hd
  exact ⟨y, hy, s, hr⟩
end
/-! ### new lists of one's own -/
section
variable {K : PySem.W.Frag} {M : Addr → Prop} {σ : L2.St} {H H' : Hp} {t ta tb tc : TE} {tt tu : TT} {tA : TA} {d e f : DV} {ds es : List D}
def EVN (K : PySem.W.Frag) (M : Addr → Prop) (σ : L2.St) (H : Hp) (t : TE) (ds : List D) : Prop := ∀ H1, Wd M H1 → Same H H1 → ∀ Q : VK, (∀ p H2 H3, Wd M H2 → Same H1 H2 → H2 p = none → Same H2 H3 → ∀ vs, H3 p = some (.lst vs) → rDs K (Fx M H2) ds vs → Q (.ref p) H3) → t σ H1 Q
theorem EVN.go (h : EVN K M σ H t ds) (w : Wd M H) {Q : VK} (k : ∀ p H2 H3, Wd M H2 → Same H H2 → H2 p = none → Same H2 H3 → ∀ vs, H3 p = some (.lst vs) → rDs K (Fx M H2) ds vs → Q (.ref p) H3) : t σ H Q := h H w (Same.refl _) Q k
theorem evn_lst (ha : EVA K M σ H tA (ds.map .im)) (hz : ds.length ≤ 1000) : EVN K M σ H (tLstS tA) ds := fun H1 w s Q k =>
  ha M H1 w (Ex.same s) _ fun xs H2 w2 s2 hx => ⟨sz_of (by rw [hx.len, List.length_map]; omega), fun p H3 np s3 hp => k p H2 H3 w2 s2 np s3 xs hp hx.ims⟩
theorem evn_cat (ha : EV K M σ H ta d) (hb : EV K M σ H tb e) (h1 : LsOf d ds) (h2 : LsOf e es) (hz : ds.length + es.length ≤ sizeLine) : EVN K M σ H (tOp rCatS ta tb) (ds ++ es) := fun H1 w s Q k =>
  ha M H1 w (Ex.same s) _ fun x H2 w2 s2 hx => hb M H2 w2 (Ex.same (s.trans s2)) _ fun y H3 w3 s3 hy => by
    obtain ⟨a, vs, e1, e2, e3⟩ := h1.get (hx.same s3)
    obtain ⟨b, ws, f1, f2, f3⟩ := h2.get hy
    exact ⟨a, b, vs, ws, e1, f1, e2, f2, by rw [e3.len, f3.len]; exact hz, fun p H' np s' hp => k p H3 H' w3 (s2.trans s3) np s' _ hp (e3.append f3)⟩
theorem evn_list (ha : EV K M σ H ta d) (h1 : SqOf d ds) : EVN K M σ H (tCB (rListOfS K) (tCons ta tNil)) ds := fun H1 w s Q k =>
  ha M H1 w (Ex.same s) _ fun x H2 w2 s2 hx => by
    obtain ⟨a, vs, rfl, e2, e3⟩ := h1.get hx
    exact ⟨a, vs, rfl, e2, fun p H' np s' hp => k p H2 H' w2 s2 np s' _ hp e3⟩
theorem rDs.lx {M M' : Addr → Prop} {H1 : Hp} (l : Lx M M' H H1) {vs : List V} (h : rDs K (Fx M H) ds vs) : rDs K (Fx M' H1) ds vs := rDs.mono l ds vs h
/-- L.append(x) -/
theorem x_append {M0 : Addr → Prop} {Ls : List Addr} {L : Addr} {Q : VK} {x : V} {d : D} {v : V} (h : rV K (mxM M0 Ls) H (.mu L ds) v) (hx : rV K (mxM M0 Ls) H (.im d) x) (hL : L ∈ Ls) (hz : ds.length < sizeLine)
    (k : ∀ H2, (∃ vs, H2 = L2.upd H L (.lst vs)) → rV K (mxM M0 Ls) H2 (.mu L (ds ++ [d])) v → Q .non H2) : rAppend v [x] H Q := by
  obtain ⟨rfl, vs, h2, h3⟩ := h
  refine ⟨L, vs, x, rfl, rfl, h2, by rw [h3.len]; exact hz, k _ ⟨_, rfl⟩ ⟨rfl, _, upd_same, ?_⟩⟩
  exact (rDs.mono (Gd.lx_upd hL) _ _ h3).append (rDs.one (rD.mono (Gd.lx_upd hL) _ _ hx))
theorem x_bm {r : V → List V → Hp → VK → Prop} {Q : VK} (ha : EV K M σ H ta d) (hl : LsOf d ds) (w : Wd M H) (k : ∀ v H2, Wd M H2 → Same H H2 → rV K M H2 d v → tA σ H2 fun xs H3 => r v xs H3 Q) : tBM K "list" r ta tA σ H Q := ha.go w fun v H2 w2 s2 hv => by
  obtain ⟨a, vs, rfl, h2, h3⟩ := hl.get hv
  exact ⟨.inl ⟨rfl, _, SqL.of h2⟩, k _ H2 w2 s2 hv⟩
end
end Lf

set_option Elab.async false
set_option linter.all false
set_option maxRecDepth 100000
set_option maxHeartbeats 4000000
/-! Further steps. -/
namespace Lf
open PySem PySem.Spec PyProof.Rows L2
section
variable {M0 : Addr → Prop} {Ls Y : List Addr} {H0 H H1 H2 : Hp} {K : PySem.W.Frag}
theorem Gd.lx0 : Lx M0 (mxM M0 []) H H := fun q o h => ⟨h.1, fun z => z.elim h.2 (fun z => nomatch z)⟩
theorem Gd.w_end (g : Gd M0 Ls Y H0 H) : Wd M0 H := fun q h => g.wd q (.inl h)
theorem Bu.nil {Y : List Addr} (b : Bu Y H H1) (e : Y = []) : Same H H1 := fun q o h => b q o h (by rw [e]; simp)
theorem pick_mem {Ls' : List Addr} {is : List Nat} (e : is.map (fun i => Ls[i]?) = Ls'.map some) : ∀ x ∈ Ls', x ∈ Ls := fun x hx => by
  have : some x ∈ Ls'.map some := List.mem_map_of_mem hx
  rw [← e] at this
  obtain ⟨i, _, hi⟩ := List.mem_map.mp this
  exact List.mem_of_getElem? hi
theorem pick_nd {Ls : List Addr} (nd : Ls.Nodup) : ∀ {Ls' : List Addr} {is : List Nat}, is.Nodup → is.map (fun i => Ls[i]?) = Ls'.map some → Ls'.Nodup
  | [], [], _, _ => List.nodup_nil
  | [], _ :: _, _, e => by simp at e
  | _ :: _, [], _, e => by simp at e
  | x :: xs, i :: is, hn, e => by
    simp only [List.map_cons, List.cons.injEq] at e
    obtain ⟨h1, h2⟩ := List.nodup_cons.mp hn
    refine List.nodup_cons.mpr ⟨fun hx => ?_, pick_nd nd h2 e.2⟩
    have : some x ∈ xs.map some := List.mem_map_of_mem hx
    rw [← e.2] at this
    obtain ⟨j, hj, ej⟩ := List.mem_map.mp this
    by_cases hij : i = j
    · subst hij; exact h1 hj
    · exact nd_ne nd i j e.1 ej hij rfl
theorem Gd.pick {Ls' : List Addr} (g : Gd M0 Ls Y H0 H) (is : List Nat) (hn : is.Nodup) (e : is.map (fun i => Ls[i]?) = Ls'.map some) : Gd M0 Ls' Y H0 H := ⟨fun q h => g.wd q (h.elim .inl fun h => .inr (pick_mem e q h)), g.bu, fun L h => g.nw L (pick_mem e L h), pick_nd g.nd hn e, g.w0, g.ys⟩
theorem Gd.lx_pick {Ls' : List Addr} (is : List Nat) (e : is.map (fun i => Ls[i]?) = Ls'.map some) : Lx (mxM M0 Ls) (mxM M0 Ls') H H := Gd.lx_sub (pick_mem e)
theorem mu_pick {Ls' : List Addr} {x : DV} {v : V} (h : rV K (mxM M0 Ls) H x v) (is : List Nat) (e : is.map (fun i => Ls[i]?) = Ls'.map some) : rV K (mxM M0 Ls') H x v := mu_sub h (pick_mem e)
theorem mu_frzp {Ls' : List Addr} {L : Addr} {ds : List D} {v : V} {i : Nat} (h : rV K (mxM M0 Ls) H (.mu L ds) v) (g : Gd M0 Ls Y H0 H) (hi : Ls[i]? = some L) (is : List Nat) (hn : i ∉ is) (e : is.map (fun i => Ls[i]?) = Ls'.map some) : rV K (mxM M0 Ls') H (.im (.lst ds)) v :=
  mu_frz h g (List.mem_of_getElem? hi) (fun hm => by
    have : some L ∈ Ls'.map some := List.mem_map_of_mem hm
    rw [← e] at this
    obtain ⟨j, hj, ej⟩ := List.mem_map.mp this
    by_cases hij : i = j
    · subst hij; exact hn hj
    · exact nd_ne g.nd i j hi ej hij rfl) (pick_mem e)
end
section
variable {t te ta tb : TE} {u c1 c2 : TS} {D : Ends} {σ : L2.St} {H : Hp} {i : Nat} {tt tu : TT} {wi : TI} {g : TG} {tA : TA} {Q : VK} {M : Addr → Prop} {K : PySem.W.Frag}
theorem st_par {j : Nat} (h : tA σ H fun vs H1 => ∃ v w, vs = [v, w] ∧ u D ((σ.set i (some v)).set j (some w)) H1) : tSeq (tPar i j tA) u D σ H := h
theorem st_asgT (h : te σ H fun v H2 => g v σ H2 (u D)) : tSeq (tAsg te g) u D σ H := h
theorem st_next {nx bk ct : L2.St → Hp → Prop} {rt : V → Hp → Prop} (h : nx σ H) : tNext { nx := nx, rt := rt, bk := bk, ct := ct } σ H := h
theorem x_and {Q : Bool → Hp → Prop} (h : tt σ H fun c H1 => if c = true then tu σ H1 Q else Q false H1) : tAnd tt tu σ H Q := h
theorem x_lst (h : tA σ H fun xs H1 => xs.length ≤ sizeLine ∧ ∀ p H', H1 p = none → Same H1 H' → H' p = some (.lst xs) → Q (.ref p) H') : tLstS tA σ H Q := h
theorem x_tup (h : tA σ H fun xs H1 => xs.length ≤ sizeLine ∧ ∀ p H', H1 p = none → Same H1 H' → H' p = some (.tup xs) → Q (.ref p) H') : tTupS tA σ H Q := h
/-- a walk and what follows it -/
def FORQ (J : It) (g : TG) (c1 u : TS) (D : Ends) (σ : L2.St) (H1 : Hp) : Prop := ∃ W : Nat → Nat → L2.St → Hp → Prop, (∃ m, W 0 m σ H1) ∧ ∀ i m σ H, W i m σ H →
      (J.stop i H ∧ (u D) σ H) ∨ (J.go i H ∧ ∃ N : L2.St → Hp → Prop, (∀ σ' H', N σ' H' → ∃ m', m' < m ∧ W (i + 1) m' σ' H') ∧ ∀ x H', J.yld i H x H' → g x σ H' fun σ2 H2 => c1 { { D with nx := u D } with nx := N, ct := N, bk := u D } σ2 H2)
theorem st_for (h : wi σ H fun J H1 => FORQ J g c1 u D σ H1) : tSeq (tFor wi g c1) u D σ H := h
theorem st_forit {J : It} {n : Nat} {G : Hp → Prop} {Yy : Nat → Hp → V → Hp → Prop} (wk : Walk J n G Yy) (Pv : Nat → L2.St → Hp → Prop) (h0 : Pv 0 σ H) (hG : ∀ i σ H, i ≤ n → Pv i σ H → G H)
    (hs : ∀ i x σ H H', i < n → Pv i σ H → Yy i H x H' → g x σ H' fun σ2 H2 => c1 { nx := Pv (i + 1), rt := D.rt, bk := u D, ct := Pv (i + 1) } σ2 H2) (hd : ∀ σ H, Pv n σ H → u D σ H) : FORQ J g c1 u D σ H :=
  for_it (D := { D with nx := u D }) wk Pv h0 hG hs hd
end
section
variable {K : PySem.W.Frag} {M : Addr → Prop} {σ : L2.St} {H H' : Hp} {t ta tb tc : TE} {tt tu : TT} {tA : TA} {d e f : DV} {wi : TI} {G : (Addr → Prop) → Hp → Hp → Prop} {es : List D}
/-! comprehensions, typed -/
theorem ev_lcmm {α β : Type} {xs : List α} {en : α → D} {fd : α → β} {en2 : β → D} {g : TG} {vs : List Nat} (hi : EVI K M σ H wi G (xs.map en)) (hG : ∀ {M M' : Addr → Prop} {H H' : Hp}, Ex M M' H H' → G M H H') (hg : GMono g) (hz : xs.length ≤ sizeLine)
    (hb : ∀ x ∈ xs, ∀ M' H' v, Wd M' H' → Ex M M' H H' → rD K (Fx M' H') (en x) v → g v (wipe σ vs) H' fun σ2 H2 => H2 = H' ∧ wipe σ2 vs = wipe σ vs ∧ EV K M' σ2 H' t (.im (en2 (fd x)))) :
    EV K M σ H (tLc wi g tYes t vs) (.im (eL en2 (xs.map fd))) := by
  have := ev_lcm (f := fun x => en2 (fd x)) hi hG hg hz hb
  unfold eL
  rw [List.map_map]
  exact this
theorem ev_lcfm {α β : Type} {xs : List α} {en : α → D} {fd : α → β} {en2 : β → D} {p : α → Bool} {g : TG} {vs : List Nat} (hi : EVI K M σ H wi G (xs.map en)) (hG : ∀ {M M' : Addr → Prop} {H H' : Hp}, Ex M M' H H' → G M H H') (hg : GMono g) (hz : xs.length ≤ sizeLine)
    (hb : ∀ x ∈ xs, ∀ M' H' v, Wd M' H' → Ex M M' H H' → rD K (Fx M' H') (en x) v → g v (wipe σ vs) H' fun σ2 H2 => H2 = H' ∧ wipe σ2 vs = wipe σ vs ∧ EVT M' σ2 H' tt (p x) ∧ (p x = true → EV K M' σ2 H' t (.im (en2 (fd x))))) :
    EV K M σ H (tLc wi g tt t vs) (.im (eL en2 ((xs.filter p).map fd))) := by
  have := ev_lcf (f := fun x => en2 (fd x)) hi hG hg hz hb
  unfold eL
  rw [List.map_map]
  exact this
theorem ev_lcff {α : Type} {xs : List α} {en : α → D} {p : α → Bool} {g : TG} {vs : List Nat} (hi : EVI K M σ H wi G (xs.map en)) (hG : ∀ {M M' : Addr → Prop} {H H' : Hp}, Ex M M' H H' → G M H H') (hg : GMono g) (hz : xs.length ≤ sizeLine)
    (hb : ∀ x ∈ xs, ∀ M' H' v, Wd M' H' → Ex M M' H H' → rD K (Fx M' H') (en x) v → g v (wipe σ vs) H' fun σ2 H2 => H2 = H' ∧ wipe σ2 vs = wipe σ vs ∧ EVT M' σ2 H' tt (p x) ∧ (p x = true → EV K M' σ2 H' t (.im (en x)))) :
    EV K M σ H (tLc wi g tt t vs) (.im (eL en (xs.filter p))) := ev_lcf (f := en) hi hG hg hz hb
theorem ev_slLm {α : Type} {en : α → D} {xs : List α} {lo hi : Option Int} {tl th : TO} (hd : LsOf d (xs.map en)) (he : EV K M σ H t d) (hl : EVO M σ H tl lo) (hh : EVO M σ H th hi) : EV K M σ H (tSl (rSlLS K) t tl th) (.im (eL en (cutD xs lo hi))) := by
  unfold eL
  rw [← cutD_map]
  exact ev_slL hd he hl hh
theorem evn_catm {α : Type} {en : α → D} {xs ys : List α} (ha : EV K M σ H ta d) (hb : EV K M σ H tb e) (h1 : LsOf d (xs.map en)) (h2 : LsOf e (ys.map en)) (hz : xs.length + ys.length ≤ sizeLine) : EVN K M σ H (tOp rCatS ta tb) ((xs ++ ys).map en) := by
  rw [List.map_append]
  exact evn_cat ha hb h1 h2 (by rw [List.length_map, List.length_map]; exact hz)
theorem od_pow {i j : Int} (h : CPow i j) : OpD K rPowI (.im (.int i)) (.im (.int j)) (.im (.int (i ^ j.toNat))) := od_i h fun _ => rfl
/-! isinstance of a built-in class -/
def tyD : D → Option String
  | .non => some "NoneType"
  | .bl _ => some "bool"
  | .int _ => some "int"
  | .str _ => some "str"
  | .lst _ => some "list"
  | .tup _ => some "tuple"
  | _ => none
theorem tyX_of {M : Addr → Prop} {H : Hp} {a : String} {d : D} {v : V} (h : rD K (Fx M H) d v) (e : tyD d = some a) : TyX K H v (.type a) := by
  cases d with
  | non => cases (Option.some.inj e); cases (show v = .non from h); exact .base .non
  | bl b => cases (Option.some.inj e); cases (show v = .bl b from h); exact .base (.bl b)
  | int b => cases (Option.some.inj e); cases (show v = .int b from h); exact .base (.int b)
  | str b => cases (Option.some.inj e); cases (show v = .str b from h); exact .base (.str b)
  | lst b =>
    cases (Option.some.inj e)
    obtain ⟨p, vs, rfl, h2, _⟩ := h
    exact .base (.lst h2.1)
  | tup b =>
    cases (Option.some.inj e)
    obtain ⟨p, vs, rfl, h2, _⟩ := h
    rcases h2 with h2 | ⟨o, h2⟩ | ⟨o, its, n, h2, h3, _⟩
    · exact .base (.tup h2.1)
    · exact .fTuple h2.1
    · exact .kTuple h2 h3
  | ob _ _ _ => exact absurd e (by unfold tyD; exact fun z => nomatch z)
  | dk _ _ => exact absurd e (by unfold tyD; exact fun z => nomatch z)
  | rf _ => exact absurd e (by unfold tyD; exact fun z => nomatch z)
  | ty _ => exact absurd e (by unfold tyD; exact fun z => nomatch z)
theorem cd_isi {x : D} {a b : String} {r : Bool} (e : tyD x = some a) (h : kitB a b = some r) : CaD K (rIsi K) [.im x, .im (.ty b)] (.im (.bl r)) := fun M H w xs hx Q k => by
  cases hx with
  | cons h1 h2 =>
    cases h2 with
    | cons h2 h3 =>
      cases h3
      cases h2
      exact ⟨_, _, _, _, r, rfl, .ty _, tyX_of h1 e, kit_ty h, k _ H w (Same.refl _) rfl⟩
/-! index -/
theorem md_indexS {xs : List Str} {x : Str} (h : LsOf d (xs.map .str)) (hx : x ∈ xs) : MtD K (rIndex K) d [.im (.str x)] (.im (.int (xs.idxOf x : Nat))) := fun M H w v vs hv hvs Q k => by
  obtain ⟨a, ws, rfl, e2, e3⟩ := h.get hv
  cases e3.strs
  cases hvs with
  | cons h1 h2 =>
    cases h2
    cases h1
    have hl := List.idxOf_lt_length_of_mem hx
    refine ⟨a, _, .str x, xs.idxOf x, .str x, rfl, rfl, SqL.of e2, rfl, flat_strs' xs, ?_, ?_, fun m z hm hz => ?_, k _ H w (Same.refl _) rfl⟩
    · rw [List.getElem?_map, List.getElem?_eq_getElem hl, List.getElem_idxOf hl]
      rfl
    · show (x == x) = true
      exact beq_self_eq_true x
    · rw [List.getElem?_map] at hz
      obtain ⟨y, hy, rfl⟩ := Option.map_eq_some_iff.mp hz
      show (y == x) = false
      obtain ⟨hm', ey⟩ := List.getElem?_eq_some_iff.mp hy
      have := List.not_of_lt_findIdx (p := (· == x)) (xs := xs) hm
      rw [ey] at this
      simpa using this
/-! n times -/
def repL {α : Type} (xs : List α) (i : Int) : List α := (List.replicate i.toNat xs).flatten
def RepC {α : Type} (xs : List α) (i : Int) : Prop := -(2 ^ 63) ≤ i ∧ i < 2 ^ 63 ∧ xs.length * i.toNat ≤ sizeLine
theorem repL_map {α β : Type} (g : α → β) (xs : List α) (i : Int) : (List.replicate i.toNat (xs.map g)).flatten = (repL xs i).map g := by
  unfold repL
  rw [List.map_flatten, List.map_replicate]
theorem od_repm {α : Type} {en : α → D} {xs : List α} {i : Int} (h1 : LsOf d (xs.map en)) (h : RepC xs i) : OpD K rRepS d (.im (.int i)) (.im (eL en (repL xs i))) := by
  unfold eL
  rw [← repL_map]
  exact od_rep h1 h.1 h.2.1 (by rw [List.length_map]; exact h.2.2)
theorem x_rng1 {R : It → Hp → Prop} (h : tA σ H fun vs H1 => ∃ j : Int, vs = [.int j] ∧ -(2 ^ 62) ≤ j ∧ j < 2 ^ 62 ∧ R (Itr 0 j.toNat) H1) : iRng1 tA σ H R := h
theorem wk_range1 {n : Int} : Walk (Itr 0 n.toNat) (rngI 0 n).length (GI M H) (YD K M H ((rngI 0 n).map .int)) := by
  rw [rngI_len, Int.sub_zero]
  refine walk_range.mono (fun _ _ => True.intro) fun i H' x H'' hi g y => ?_
  obtain ⟨e1, e2⟩ := y
  rw [e1]
  refine ⟨Same.refl _, .int (0 + (i : Int)), ?_, fun _ _ _ => e2⟩
  rw [List.getElem?_map, rngI_get (by omega)]
  rfl
/-! min, max -/
abbrev rMin2 : List V → Hp → VK → Prop := fun xs H Q => ∃ i j : Int, xs = [.int i, .int j] ∧ Q (.int (if j < i then j else i)) H
abbrev rMax2 : List V → Hp → VK → Prop := fun xs H Q => ∃ i j : Int, xs = [.int i, .int j] ∧ Q (.int (if i < j then j else i)) H
theorem cd_min2 {i j : Int} : CaD K rMin2 [.im (.int i), .im (.int j)] (.im (.int (if j < i then j else i))) := fun M H w xs hx Q k => by
  cases hx with
  | cons h1 h2 =>
    cases h2 with
    | cons h2 h3 =>
      cases h3; cases h1; cases h2
      exact ⟨i, j, rfl, k _ H w (Same.refl _) rfl⟩
theorem cd_max2 {i j : Int} : CaD K rMax2 [.im (.int i), .im (.int j)] (.im (.int (if i < j then j else i))) := fun M H w xs hx Q k => by
  cases hx with
  | cons h1 h2 =>
    cases h2 with
    | cons h2 h3 =>
      cases h3; cases h1; cases h2
      exact ⟨i, j, rfl, k _ H w (Same.refl _) rfl⟩
end
end Lf

set_option Elab.async false
set_option linter.all false
set_option maxRecDepth 100000
set_option maxHeartbeats 4000000
/-! sorted(list of tuples of ints), of any number. -/
namespace Lf
open PySem PySem.Spec PyProof.Rows L2 SrtO
def IsTI (h : Heap) (v : Value) (ns : List Int) : Prop := ∃ a o its n, v = .ref a ∧ h.get? a = some o ∧ o.cls = .type "tuple" ∧ o.data = .seq its n ∧ Vals (ns.map V.int) its.toList
theorem IsTI.keeps {h h' : Heap} {v : Value} {ns : List Int} (p : IsTI h v ns) (k : ∀ b o, h.get? b = some o → o.cls = .type "tuple" → h'.get? b = some o) : IsTI h' v ns := by
  obtain ⟨a, o, t, n, e, ho, hc, hd, hv⟩ := p
  exact ⟨a, o, t, n, e, k _ _ ho hc, hc, hd, hv⟩
theorem lexLt_irr : ∀ ns : List Int, HT.lexLt ns ns = false
  | [] => rfl
  | n :: ns => by rw [HT.lexLt_cons, if_pos rfl]; exact lexLt_irr ns
theorem lexLt_asym : ∀ ns ms : List Int, HT.lexLt ns ms = true → HT.lexLt ms ns = false
  | [], [], h => by cases h
  | [], m :: ms, h => rfl
  | n :: ns, [], h => by cases h
  | n :: ns, m :: ms, h => by
    rw [HT.lexLt_cons] at h ⊢
    by_cases e : n = m
    · rw [if_pos e] at h
      rw [if_pos e.symm]
      exact lexLt_asym ns ms h
    · rw [if_neg e, decide_eq_true_eq] at h
      rw [if_neg (fun z => e z.symm), decide_eq_false_iff_not]
      omega
theorem lexLt_tr : ∀ x y z : List Int, HT.lexLt x y = false → HT.lexLt y z = false → HT.lexLt x z = false
  | [], [], z, h1, h2 => h2
  | [], y :: ys, z, h1, h2 => by cases h1
  | x :: xs, y, [], h1, h2 => rfl
  | x :: xs, [], z :: zs, h1, h2 => by cases h2
  | x :: xs, y :: ys, z :: zs, h1, h2 => by
    rw [HT.lexLt_cons] at h1 h2 ⊢
    by_cases e1 : x = y
    · by_cases e2 : y = z
      · rw [if_pos e1] at h1
        rw [if_pos e2] at h2
        rw [if_pos (e1.trans e2)]
        exact lexLt_tr xs ys zs h1 h2
      · rw [if_neg e2, decide_eq_false_iff_not] at h2
        rw [if_neg (fun e => e2 (e1.symm.trans e)), decide_eq_false_iff_not]
        omega
    · rw [if_neg e1, decide_eq_false_iff_not] at h1
      by_cases e2 : y = z
      · rw [if_neg (fun e => e1 (e.trans e2.symm)), decide_eq_false_iff_not]
        omega
      · rw [if_neg e2, decide_eq_false_iff_not] at h2
        rw [if_neg (by omega), decide_eq_false_iff_not]
        omega
theorem swo_lexT {α : Type} (k : α → List Int) : Swo fun v u => HT.lexLt (k v) (k u) := ⟨fun x y h => lexLt_asym _ _ h, fun x y z h1 h2 => lexLt_tr _ _ _ h2 h1⟩
section
variable {prog : Program} {w : World} {A : Around} {E : Value → Shared → Prop} {s : Shared}
theorem int_lex {R : Bool} : ∀ {ns ms : List Int} {us ws : List Value} (i : Nat) {fin : Bool}, Vals (ns.map V.int) us → Vals (ms.map V.int) ws → fin = decide (ns.length < ms.length) → R = HT.lexLt ns ms →
    PySem.W.KatLex prog w A true fin (fun r s' => s' = s ∧ r = R) (us.zip ws) i s
  | [], [], us, ws, i, fin, h1, h2, hf, hR => by
    cases h1; cases h2
    exact PySem.W.kat_nil ⟨rfl, by rw [hf, hR]; rfl⟩
  | [], m :: ms, us, ws, i, fin, h1, h2, hf, hR => by
    cases h1
    exact PySem.W.kat_nil ⟨rfl, by rw [hf, hR]; rfl⟩
  | n :: ns, [], us, ws, i, fin, h1, h2, hf, hR => by
    cases h2
    rw [List.zip_nil_right]
    exact PySem.W.kat_nil ⟨rfl, by rw [hf, hR]; rfl⟩
  | n :: ns, m :: ms, us, ws, i, fin, h1, h2, hf, hR => by
    cases h1 with
    | cons r1 h1 =>
      cases h2 with
      | cons r2 h2 =>
        obtain ⟨t, rfl⟩ := r1
        obtain ⟨u, rfl⟩ := r2
        rw [List.zip_cons_cons]
        rw [HT.lexLt_cons] at hR
        refine PySem.W.kat_cons (SeqAt.EqAt.int_int n t m u prog w _ _ ?_)
        refine PySem.W.kat_go (fun e1 => ?_) (fun e1 => ?_)
        · have ex : n = m := by simpa using e1
          rw [if_pos ex] at hR
          exact PySem.W.kat_yes (int_lex (i + 1) h1 h2 (by rw [hf]; simp) hR)
        · have ex : ¬ n = m := by simpa using e1
          rw [if_neg ex] at hR
          refine PySem.W.kat_no ?_
          cases hb : (true && i == 0) with
          | true => exact oneLt_int ⟨rfl, hR.symm⟩
          | false => exact PySem.W.kat_one _ _ (PyProof.Rows.lt_int (show s = s ∧ decide (n < m) = R from ⟨rfl, hR.symm⟩))
theorem tup_cmp {vs : List Value} {k : Value → List Int} (hp : ∀ v ∈ vs, IsTI s.heap v (k v)) : Cmp prog w A s (tuples' true) (fun p => p.1 ∈ vs) (lt2 fun v u => HT.lexLt (k v) (k u)) := by
  intro p q hm hm'
  obtain ⟨a, o, its, n, e, ho, hc, hd, hv⟩ := hp _ hm
  obtain ⟨a', o', its', n', e', ho', hc', hd', hv'⟩ := hp _ hm'
  show wpAny (model prog w) A (keyLt' (tuples' true) p.1 q.1) (fun r s' => s' = s ∧ r = HT.lexLt (k p.1) (k q.1)) (fun _ _ => False) s
  have l1 : (k p.1).length = its.size := by simpa using hv.length
  have l2 : (k q.1).length = its'.size := by simpa using hv'.length
  generalize k p.1 = ns at hv l1 ⊢
  generalize k q.1 = ms at hv' l2 ⊢
  rw [e, e']
  exact PySem.W.kat_lt ho hd ho' hd' (int_lex 0 hv hv' (by rw [l1, l2]) rfl)
theorem firsts_ofT {h : Heap} : ∀ {vs : List Value}, (∀ v ∈ vs, ∃ ns, IsTI h v ns ∧ ns ≠ []) → ∃ fs : List Value, PySem.W.KatTups h vs fs ∧ fs.length = vs.length ∧ ∀ f ∈ fs, ∃ x t, f = Value.int x t
  | [], _ => ⟨[], PySem.W.KatTups.nil, rfl, fun _ hm => by simp at hm⟩
  | v :: vs, hp => by
    obtain ⟨fs, h1, h2, h3⟩ := firsts_ofT (vs := vs) fun v' hm => hp v' (List.mem_cons_of_mem _ hm)
    obtain ⟨ns, ⟨a, o, its, n, e, ho, hc, hd, hv⟩, hne⟩ := hp v (List.mem_cons_self ..)
    subst e
    cases ns with
    | nil => exact absurd rfl hne
    | cons x ns =>
      cases e : its.toList with
      | nil => rw [e] at hv; cases hv
      | cons u us =>
        rw [e] at hv
        cases hv with
        | cons r hv =>
          obtain ⟨t, rfl⟩ := r
          have e0 : its[0]? = some (.int x t) := by rw [← Array.getElem?_toList, e]; rfl
          refine ⟨.int x t :: fs, PySem.W.KatTups.cons ho hc hd e0 h1, by rw [List.length_cons, List.length_cons, h2], fun f hm => ?_⟩
          rcases List.mem_cons.mp hm with rfl | hm
          · exact ⟨x, t, rfl⟩
          · exact h3 f hm
theorem tups_sortableO {a : Addr} {vs : List Value} {k : Value → List Int} (h0 : 0 < vs.length) (hp : ∀ v ∈ vs, IsTI s.heap v (k v) ∧ k v ≠ []) (ha : ∀ o, s.heap.get? a = some o → o.cls ≠ .type "tuple") : SortableO prog w A s a vs fun v u => HT.lexLt (k v) (k u) := by
  intro h' keep
  have hp' : ∀ v ∈ vs, IsTI h' v (k v) := fun v hm => (hp v hm).1.keeps fun b o e c => keep b o (fun z => by subst z; exact ha o e c) e
  obtain ⟨fs, h1, h2, h3⟩ := firsts_ofT fun v hm => ⟨_, hp' v hm, (hp v hm).2⟩
  refine ⟨tuples' true, fun Q E hq => ?_, tup_cmp hp'⟩
  refine PySem.W.kat_kind (T := .type "int") h1 (by omega) (fun f hm => ?_) (by rfl) ?_
  · obtain ⟨x, t, rfl⟩ := h3 f hm
    exact PySem.W.Looks.now
  · have e : (Value.type "int" != Value.type "tuple") = true := by first | decide +kernel | rfl | decide
    rw [e]
    exact hq
theorem sorted_tupsO {l : Addr} {vs : List Value} {k : Value → List Int} {Q : Value → Shared → Prop} (hl : s.heap.IsList l vs.toArray) (hz : vs.length ≤ sizeLine) (hp : ∀ v ∈ vs, IsTI s.heap v (k v) ∧ k v ≠ [])
    (h : ∀ (h' : Heap) (d : Addr) (out : List Value), Srtd (fun v u => HT.lexLt (k v) (k u)) out → Stb (fun v u => HT.lexLt (k v) (k u)) out vs → (∀ b o, s.heap.get? b = some o → h'.get? b = some o) → s.heap.objs.size ≤ d → (∃ n, h'.get? d = some (seqObj "list" out.toArray n)) → Q (.ref d) { s with heap := h' }) :
    wpAny (model prog w) A (call (.builtin "sorted") [.ref l]) Q E s := by
  refine sorted_ord (swo_lexT k) hl hz (fun h2 h₁ a ha kk => ?_) fun out hs hb => ?_
  · refine tups_sortableO (s := { s with heap := h₁ }) (by omega) (fun v hm => ⟨(hp v hm).1.keeps fun b o e _ => (kk b o e).2, (hp v hm).2⟩) fun o e => ?_
    have e' : some o = some (seqObj "list" vs.toArray 0) := e.symm.trans ha
    cases e'
    intro c
    exact absurd (Value.type.inj c) (by decide)
  · exact h _ _ out hs hb (fun b o e => sortedAll_old e) (Nat.le_succ _) (sortedAll_at s.heap vs out.toArray)
end
/-- sorted(xs), xs a list of tuples of ints, none empty -/
def rSortedTI (K : PySem.W.Frag) : List V → Hp → VK → Prop := fun vs H Q => ∃ (a : Addr) (xs : List V), vs = [V.ref a] ∧ SqL K H a xs ∧ (∀ x ∈ xs, ∃ (t : Addr) (ns : List Int), x = V.ref t ∧ SqT K H t (ns.map V.int) ∧ ns ≠ []) ∧
  ∀ (k : V → List Int), (∀ (t : Addr) (ns : List Int), SqT K H t (ns.map V.int) → k (.ref t) = ns) → ∀ ys p H', Srtd (fun x y => HT.lexLt (k x) (k y)) ys → Stb (fun x y => HT.lexLt (k x) (k y)) ys xs → H p = none → Same H H' → H' p = some (.lst ys) → Q (.ref p) H'
theorem ints_inj : ∀ {ns ms : List Int}, ns.map V.int = ms.map V.int → ns = ms
  | [], [], _ => rfl
  | [], _ :: _, h => by cases h
  | _ :: _, [], h => by cases h
  | n :: ns, m :: ms, h => by
    rw [List.map_cons, List.map_cons] at h
    injection h with h1 h2
    injection h1 with h1
    rw [h1, ints_inj h2]
theorem vals_inj : ∀ {ns ms : List Int} {us : List Value}, Vals (ns.map V.int) us → Vals (ms.map V.int) us → ns = ms
  | [], [], _, _, _ => rfl
  | [], _ :: _, _, h1, h2 => by cases h1; cases h2
  | _ :: _, [], _, h1, h2 => by cases h2; cases h1
  | n :: ns, m :: ms, _, h1, h2 => by
    cases h1 with
    | cons r1 h1 =>
      cases h2 with
      | cons r2 h2 =>
        obtain ⟨t, rfl⟩ := r1
        obtain ⟨u, e⟩ := r2
        cases e
        rw [vals_inj h1 h2]
theorem cr_sortedTI {X : Cx} : CallR X (.builtin "sorted") (rSortedTI X.K) := by
  intro pins s σ H vs us Q I r h
  obtain ⟨a, xs, rfl, hs, hx, q⟩ := h
  obtain ⟨its, rv, hl, hz⟩ := I.list hs
  obtain ⟨u, rfl, ru⟩ := vals1 r
  obtain rfl : u = Value.ref a := ru
  obtain ⟨e1, e2⟩ := refs_back rv fun x m => by
    obtain ⟨t, _, e, _⟩ := hx x m
    exact ⟨t, e⟩
  classical
  obtain ⟨k, hk⟩ : ∃ k : V → List Int, ∀ (t : Addr) (ns : List Int), SqT X.K H t (ns.map V.int) → k (.ref t) = ns := by
    refine ⟨fun v => match v with
      | .ref t => if h : ∃ ns : List Int, SqT X.K H t (ns.map V.int) then h.choose else []
      | _ => [], fun t ns h => ?_⟩
    have h' : ∃ ns : List Int, SqT X.K H t (ns.map V.int) := ⟨ns, h⟩
    show (if h : ∃ ns : List Int, SqT X.K H t (ns.map V.int) then h.choose else []) = ns
    rw [dif_pos h']
    have h2 := h'.choose_spec
    exact ints_inj (I.tuple_inj h2 h)
  refine sorted_tupsO (k := fun u => k (backV u)) hl.isList (by rw [← rv.length]; exact hz) (fun v hv => ?_) fun h' d out h1 h2 kp hd hn => ?_
  · obtain ⟨t, rfl⟩ := e2 v hv
    have hm : V.ref t ∈ xs := by rw [e1]; exact List.mem_map.mpr ⟨_, hv, rfl⟩
    obtain ⟨t', ns, e, ht, hne⟩ := hx _ hm
    cases e
    have ek : k (backV (.ref t)) = ns := hk t ns ht
    show IsTI _ _ (k (backV (.ref t))) ∧ k (backV (.ref t)) ≠ []
    rw [ek]
    obtain ⟨its2, r2, ⟨o, ho, hc, n, hd⟩, _⟩ := I.tuple ht
    exact ⟨⟨t, o, _, n, rfl, ho, hc, hd, r2⟩, hne⟩
  · have h3 : ∀ u ∈ out, ∃ a, u = Value.ref a := fun u hu => e2 u (h2.perm.mem_iff.mp hu)
    obtain ⟨n, hn⟩ := hn
    have hb : Stb (fun x y => HT.lexLt (k x) (k y)) (out.map backV) xs := by
      rw [e1]
      exact Stb.map (swo_lexT k) backV h2
    have nd : H d = none := I.hok.fresh hd
    refine ⟨.ref d, upd H d (.lst (out.map backV)), I.laid (t' := s.toks) kp hd ⟨?_, out, n, vals_back h3, hn⟩, rfl, q k hk _ d _ (srtd_map h1) hb nd (Same.new nd) upd_same⟩
    rw [hb.len]
    exact hz
/-! by data -/
/-- the list in ascending order -/
def sortT (xs : List (List Int)) : List (List Int) := xs.mergeSort fun x y => !HT.lexLt y x
theorem lexLt_tot : ∀ x y : List Int, HT.lexLt x y = false → HT.lexLt y x = false → x = y
  | [], [], _, _ => rfl
  | [], y :: ys, h1, _ => by cases h1
  | x :: xs, [], _, h2 => by cases h2
  | x :: xs, y :: ys, h1, h2 => by
    rw [HT.lexLt_cons] at h1 h2
    by_cases e : x = y
    · rw [if_pos e] at h1
      rw [if_pos e.symm] at h2
      rw [e, lexLt_tot xs ys h1 h2]
    · rw [if_neg e, decide_eq_false_iff_not] at h1
      rw [if_neg (fun z => e z.symm), decide_eq_false_iff_not] at h2
      omega
theorem sortT_perm (xs : List (List Int)) : (sortT xs).Perm xs := List.mergeSort_perm _ _
theorem sortT_srtd (xs : List (List Int)) : (sortT xs).Pairwise fun x y => HT.lexLt y x = false := by
  have := List.pairwise_mergeSort (le := fun x y : List Int => !HT.lexLt y x) (fun a b c h1 h2 => by
    rw [Bool.not_eq_true'] at h1 h2 ⊢
    exact lexLt_tr c b a h2 h1) (fun a b => by
    cases h : HT.lexLt a b with
    | true => rw [lexLt_asym a b h]; simp
    | false => simp) xs
  exact this.imp fun h => by rw [Bool.not_eq_true'] at h; exact h
theorem sortT_uniq {xs ys : List (List Int)} (h1 : ys.Pairwise fun x y => HT.lexLt y x = false) (h2 : ys.Perm xs) : ys = sortT xs := by
  refine List.Perm.eq_of_pairwise (le := fun x y => HT.lexLt y x = false) (fun a b _ _ h3 h4 => lexLt_tot a b h4 h3) h1 (sortT_srtd xs) (h2.trans (sortT_perm xs).symm)
section
variable {K : PySem.W.Frag} {d : DV}
theorem cd_sortTI {nss : List (List Int)} (hd : LsOf d (nss.map (eT D.int))) (h0 : ∀ n ∈ nss, n ≠ []) : CaD K (rSortedTI K) [d] (.im (eL (eT D.int) (sortT nss))) := fun M H w xs hx Q k => by
  cases hx with
  | cons h1 h2 =>
    cases h2
    obtain ⟨a, vs, rfl, e2, e3⟩ := hd.get h1
    have tup : ∀ (i : Nat) (v : V), vs[i]? = some v → ∃ ns, nss[i]? = some ns ∧ rD K (Fx M H) (eT D.int ns) v ∧ ∃ t, v = V.ref t ∧ SqT K H t (ns.map V.int) := fun i v hi => by
      obtain ⟨dd, hdd, hr⟩ := e3.get hi
      rw [List.getElem?_map] at hdd
      obtain ⟨ns, hns, rfl⟩ := Option.map_eq_some_iff.mp hdd
      obtain ⟨t, ws, rfl, h3, h4⟩ := id hr
      cases h4.ints
      exact ⟨ns, hns, hr, t, rfl, h3.sq⟩
    refine ⟨a, vs, rfl, SqL.of e2, fun v hv => ?_, fun kf hk ys p H' hs hb np s' hp => ?_⟩
    · obtain ⟨i, hi⟩ := List.mem_iff_getElem?.mp hv
      obtain ⟨ns, hns, _, t, e, hq⟩ := tup i v hi
      exact ⟨t, ns, e, hq, h0 ns (List.mem_of_getElem? hns)⟩
    · have ek : vs.map kf = nss := by
        refine List.ext_getElem? fun i => ?_
        rw [List.getElem?_map]
        cases e : vs[i]? with
        | none =>
          have := List.getElem?_eq_none_iff.mp e
          rw [e3.len, List.length_map] at this
          exact (List.getElem?_eq_none_iff.mpr this).symm
        | some v =>
          obtain ⟨ns, hns, _, t, rfl, hq⟩ := tup i v e
          rw [hns]
          show some (kf (.ref t)) = some ns
          rw [hk t ns hq]
      have es : ys.map kf = sortT nss := by
        refine sortT_uniq (List.pairwise_map.mpr (hs.imp fun h => h)) ?_
        rw [← ek]
        exact hb.perm.map kf
      refine k _ H' (w.same s') s' ?_
      refine ⟨p, ys, rfl, w.new np hp, ?_⟩
      rw [← es]
      have all : ∀ y ∈ ys, rD K (Fx M H') (eT D.int (kf y)) y := fun y hy => by
        have hv := hb.perm.mem_iff.mp hy
        obtain ⟨i, hi⟩ := List.mem_iff_getElem?.mp hv
        obtain ⟨ns, hns, hr, t, rfl, hq⟩ := tup i y hi
        rw [hk t ns hq]
        exact hr.same s'
      clear hs hb hp es
      induction ys with
      | nil => rfl
      | cons y ys ih => exact ⟨y, ys, rfl, all y (List.mem_cons_self ..), ih fun z hz => all z (List.mem_cons_of_mem _ hz)⟩
end
end Lf

set_option Elab.async false
set_option linter.all false
set_option maxRecDepth 100000
set_option maxHeartbeats 4000000
/-! Dicts with text keys of one's own. -/
namespace Lf
open PySem PySem.Spec PyProof.Rows L2
/-- what stands at a key -/
def getA {α : Type} [Inhabited α] (kvs : List (Str × α)) (k : Str) : α := ((kvs.find? fun p => decide (p.1 = k)).map (·.2)).getD default
def hasA {α : Type} (kvs : List (Str × α)) (k : Str) : Bool := kvs.any fun p => decide (p.1 = k)
def putA {α : Type} (kvs : List (Str × α)) (k : Str) (x : α) : List (Str × α) := if hasA kvs k = true then kvs.map (fun p => if p.1 = k then (p.1, x) else p) else kvs ++ [(k, x)]
def enA {α : Type} (en : α → D) (p : Str × α) : Str × D := (p.1, en p.2)
section
variable {K : PySem.W.Frag} {R : RH}
theorem val_of {α : Type} [Inhabited α] {en : α → D} {k : Str} : ∀ {kvs : List (Str × α)} {ws : List (Key × V)}, ws.map Prod.fst = (kvs.map (enA en)).map (fun p => (Sum.inr p.1 : Key)) → rDs K R ((kvs.map (enA en)).map Prod.snd) (ws.map Prod.snd) → hasA kvs k = true → ∃ v, valV ws (Sum.inr k) = some v ∧ rD K R (en (getA kvs k)) v
  | [], ws, _, _, h => by cases h
  | p :: kvs, [], e, _, _ => by cases e
  | p :: kvs, q :: ws, e, hr, h => by
    simp only [List.map_cons, List.cons.injEq] at e
    obtain ⟨v, us, e1, h1, h2⟩ := hr
    simp only [List.map_cons, List.cons.injEq] at e1
    by_cases c : p.1 = k
    · refine ⟨q.2, valV_pos (by rw [e.1]; show Sum.inr p.1 = Sum.inr k; rw [c]), ?_⟩
      have : getA (p :: kvs) k = p.2 := by unfold getA; rw [List.find?_cons_of_pos (by simpa using c)]; rfl
      rw [this, e1.1]
      exact h1
    · have h' : hasA kvs k = true := by
        unfold hasA at h ⊢
        rw [List.any_cons, decide_eq_false c, Bool.false_or] at h
        exact h
      rw [← e1.2] at h2
      obtain ⟨w, hw, hr2⟩ := val_of (k := k) e.2 h2 h'
      refine ⟨w, ?_, ?_⟩
      · rw [valV_neg (by rw [e.1]; intro z; exact c (Sum.inr.inj z))]
        exact hw
      · have : getA (p :: kvs) k = getA kvs k := by unfold getA; rw [List.find?_cons_of_neg (by simpa using c)]
        rw [this]
        exact hr2
theorem has_of {α : Type} {en : α → D} {k : Str} : ∀ {kvs : List (Str × α)} {ws : List (Key × V)}, ws.map Prod.fst = (kvs.map (enA en)).map (fun p => (Sum.inr p.1 : Key)) → (valV ws (Sum.inr k)).isSome = hasA kvs k
  | [], [], _ => rfl
  | [], _ :: _, e => by cases e
  | p :: kvs, [], e => by cases e
  | p :: kvs, q :: ws, e => by
    simp only [List.map_cons, List.cons.injEq] at e
    unfold hasA
    rw [List.any_cons]
    by_cases c : p.1 = k
    · rw [valV_pos (by rw [e.1]; show Sum.inr p.1 = Sum.inr k; rw [c]), decide_eq_true c]
      rfl
    · rw [valV_neg (by rw [e.1]; intro z; exact c (Sum.inr.inj z)), decide_eq_false c, Bool.false_or]
      exact has_of e.2
theorem put_keys {α : Type} {en : α → D} {k : Str} {x : α} {v : V} {kvs : List (Str × α)} {ws : List (Key × V)} (e : ws.map Prod.fst = (kvs.map (enA en)).map (fun p => (Sum.inr p.1 : Key))) (hr : rDs K R ((kvs.map (enA en)).map Prod.snd) (ws.map Prod.snd)) (hx : rD K R (en x) v) :
    (putK ws (Sum.inr k : Key) v).map Prod.fst = ((putA kvs k x).map (enA en)).map (fun p => (Sum.inr p.1 : Key)) ∧ rDs K R (((putA kvs k x).map (enA en)).map Prod.snd) ((putK ws (Sum.inr k : Key) v).map Prod.snd) := by
  have ha := has_of (k := k) e
  unfold putK putA
  rw [valV_any, ha]
  by_cases c : hasA kvs k = true
  · rw [if_pos c, if_pos c]
    clear ha c
    induction kvs generalizing ws with
    | nil =>
      cases ws with
      | nil => exact ⟨rfl, rfl⟩
      | cons q ws => cases e
    | cons p kvs ih =>
      cases ws with
      | nil => cases e
      | cons q ws =>
        simp only [List.map_cons, List.cons.injEq] at e
        obtain ⟨u, us, e1, h1, h2⟩ := hr
        simp only [List.map_cons, List.cons.injEq] at e1
        rw [← e1.2] at h2
        obtain ⟨i1, i2⟩ := ih e.2 h2
        have eq : q.1 = Sum.inr p.1 := e.1
        by_cases cp : p.1 = k
        · have cq : q.1 = Sum.inr k := by rw [eq, cp]
          simp only [List.map_cons, if_pos cp, if_pos cq]
          exact ⟨by rw [i1, eq]; rfl, ⟨_, _, rfl, hx, i2⟩⟩
        · have cq : ¬ q.1 = Sum.inr k := fun z => cp (Sum.inr.inj (eq.symm.trans z))
          simp only [List.map_cons, if_neg cp, if_neg cq]
          exact ⟨by rw [i1, eq]; rfl, ⟨_, _, rfl, by rw [e1.1]; exact h1, i2⟩⟩
  · rw [if_neg c, if_neg c]
    simp only [List.map_append, List.map_cons, List.map_nil]
    exact ⟨by rw [e]; simp [enA], hr.append (rDs.one hx)⟩
end
section
variable {K : PySem.W.Frag} {M : Addr → Prop} {σ : L2.St} {H H' : Hp} {t ta tb td ty tv : TE} {u : TS} {D : Ends}
theorem ev_dget {α : Type} [Inhabited α] {en : α → Lf.D} {kvs : List (Str × α)} {L : Addr} {k : Str} (hd : EV K M σ H td (.md L (kvs.map (enA en)))) (hk : EV K M σ H ty (.im (.str k))) (h : hasA kvs k = true) : EV K M σ H (tDGet td ty) (.im (en (getA kvs k))) := fun M' H1 w s Q kq =>
  hd M' H1 w s _ fun x H2 w2 s2 hx => hk M' H2 w2 (s.sm s2) _ fun y H3 w3 s3 hy => by
    obtain ⟨rfl, ws, h2, h0, h3⟩ := hx.same s3
    cases hy
    obtain ⟨v, hv, hr⟩ := val_of h0 h3 h
    exact ⟨L, v, rfl, by rw [← hv]; exact DGet.k (k := Sum.inr k) h2, kq _ H3 w3 (s2.trans s3) hr⟩
theorem ev_din {α : Type} {en : α → Lf.D} {kvs : List (Str × α)} {L : Addr} {k : Str} (hd : EV K M σ H td (.md L (kvs.map (enA en)))) (hk : EV K M σ H ty (.im (.str k))) : EV K M σ H (tDIn ty td) (.im (.bl (hasA kvs k))) := fun M' H1 w s Q kq =>
  hk M' H1 w s _ fun y H2 w2 s2 hy => hd M' H2 w2 (s.sm s2) _ fun x H3 w3 s3 hx => by
    obtain ⟨rfl, ws, h2, h0, h3⟩ := hx
    cases hy
    refine ⟨L, _, rfl, DGet.k (k := Sum.inr k) h2, ?_⟩
    rw [has_of h0]
    exact kq _ H3 w3 (s2.trans s3) rfl
theorem x_dnew {Q : VK} (w : Wd M H) (k : ∀ p H2, H p = none → Same H H2 → H2 p = some (.dK []) → Q (.ref p) H2) : tDNewK σ H Q := fun p hp => k p _ hp (Same.new hp) upd_same
theorem st_dput (h : tv σ H fun v H1 => td σ H1 fun x H2 => ty σ H2 fun y H3 => ∃ a H4, x = .ref a ∧ DPut H3 a y v H4 ∧ u D σ H4) : tSeq (sDPut td ty tv) u D σ H := h
theorem x_dput {α : Type} {en : α → Lf.D} {M0 : Addr → Prop} {Ls : List Addr} {L : Addr} {kvs : List (Str × α)} {k : Str} {x : α} {v vx : V} {Q : Hp → Prop} (hd : rV K (mxM M0 Ls) H (.md L (kvs.map (enA en))) v) (hx : rV K (mxM M0 Ls) H (.im (en x)) vx) (hL : L ∈ Ls) (hz : kvs.length < sizeLine)
    (q : ∀ H2, (∃ ws, H2 = L2.upd H L (.dK ws)) → rV K (mxM M0 Ls) H2 (.md L ((putA kvs k x).map (enA en))) v → Q H2) : ∃ a H4, v = .ref a ∧ DPut H a (.str k) vx H4 ∧ Q H4 := by
  obtain ⟨rfl, ws, h2, h0, h3⟩ := hd
  have hl : ws.length < sizeLine := by
    have := congrArg List.length h0
    simp only [List.length_map] at this
    omega
  have l : Lx (mxM M0 Ls) (mxM M0 Ls) H (L2.upd H L (.dK (putK ws (Sum.inr k : Key) vx))) := Gd.lx_upd hL
  obtain ⟨p1, p2⟩ := put_keys (K := K) (k := k) h0 (rDs.mono l _ _ h3) (rD.mono l _ _ hx)
  exact ⟨L, _, rfl, DPut.k (k := Sum.inr k) h2 hl, q _ ⟨_, rfl⟩ ⟨rfl, _, upd_same, p1, p2⟩⟩
end
end Lf

set_option Elab.async false
set_option linter.all false
set_option maxRecDepth 100000
set_option maxHeartbeats 4000000
/-! Comprehensions of two clauses, by data. -/
namespace Lf
open PySem PySem.Spec PyProof.Rows L2
section
variable {K : PySem.W.Frag} {M : Addr → Prop} {σ : L2.St} {H H' : Hp} {t : TE} {tt tt1 : TT} {wi wi1 : TI} {G G1 : (Addr → Prop) → Hp → Hp → Prop}
/-- the inner walk by a Walk -/
theorem lc2_it {J : It} {n : Nat} {Gw : Hp → Prop} {Y : Nat → Hp → V → Hp → Prop} (wk : Walk J n Gw Y) {g : TG} {tt : TT} {te : TE} {vs : List Nat} {σ : L2.St} {H1 : Hp} {D : Addr} {Qd : Hp → Prop} (Pv : Nat → Hp → Prop) (h0 : Pv 0 H1) (hG : ∀ i H, i ≤ n → Pv i H → Gw H)
    (hs : ∀ i x H H', i < n → Pv i H → Y i H x H' → g x (wipe σ vs) H' fun σ2 H2 => wipe σ2 vs = wipe σ vs ∧ tt σ2 H2 fun b H3 =>
      if b = true then te σ2 H3 fun y H4 => ∃ acc, H4 D = some (.lst acc) ∧ acc.length < sizeLine ∧ Pv (i + 1) (upd H4 D (.lst (acc ++ [y]))) else Pv (i + 1) H3) (hd : ∀ H, Pv n H → Qd H) :
    ∃ W : Nat → Nat → Hp → Prop, (∃ m, W 0 m H1) ∧ ∀ i m H, W i m H →
      (J.stop i H ∧ Qd H) ∨ (J.go i H ∧ ∃ Nx : Hp → Prop, (∀ H', Nx H' → ∃ m', m' < m ∧ W (i + 1) m' H') ∧ ∀ x H', J.yld i H x H' → g x (wipe σ vs) H' fun σ2 H2 => wipe σ2 vs = wipe σ vs ∧ tt σ2 H2 fun b H3 =>
        if b = true then te σ2 H3 fun y H4 => ∃ acc, H4 D = some (.lst acc) ∧ acc.length < sizeLine ∧ Nx (upd H4 D (.lst (acc ++ [y]))) else Nx H3) := by
  refine ⟨fun i m H => m = n - i ∧ i ≤ n ∧ Pv i H, ⟨n, by simp, Nat.zero_le _, h0⟩, ?_⟩
  rintro i m H ⟨rfl, hi, p⟩
  have q := hG i H hi p
  by_cases hlt : i < n
  · refine .inr ⟨wk.goes i H hlt q, Pv (i + 1), fun H' p' => ⟨n - (i + 1), by omega, rfl, hlt, p'⟩, fun x H' y => hs i x H H' hlt p (wk.yields i H x H' hlt q y)⟩
  · have e : i = n := by omega
    subst e
    exact .inl ⟨wk.stops H q, hd H p⟩
/-- the outer walk -/
theorem lc2o_it {J : It} {n : Nat} {Gw : Hp → Prop} {Y : Nat → Hp → V → Hp → Prop} (wk : Walk J n Gw Y) {B : V → Hp → (Hp → Prop) → Prop} {H1 : Hp} {Qd : Hp → Prop} (Pv : Nat → Hp → Prop) (h0 : Pv 0 H1) (hG : ∀ i H, i ≤ n → Pv i H → Gw H)
    (hs : ∀ i x H H', i < n → Pv i H → Y i H x H' → B x H' (Pv (i + 1))) (hd : ∀ H, Pv n H → Qd H) :
    ∃ W : Nat → Nat → Hp → Prop, (∃ m, W 0 m H1) ∧ ∀ i m H, W i m H → (J.stop i H ∧ Qd H) ∨ (J.go i H ∧ ∃ Nx : Hp → Prop, (∀ H', Nx H' → ∃ m', m' < m ∧ W (i + 1) m' H') ∧ ∀ x H', J.yld i H x H' → B x H' Nx) := by
  refine ⟨fun i m H => m = n - i ∧ i ≤ n ∧ Pv i H, ⟨n, by simp, Nat.zero_le _, h0⟩, ?_⟩
  rintro i m H ⟨rfl, hi, p⟩
  have q := hG i H hi p
  by_cases hlt : i < n
  · refine .inr ⟨wk.goes i H hlt q, Pv (i + 1), fun H' p' => ⟨n - (i + 1), by omega, rfl, hlt, p'⟩, fun x H' y => hs i x H H' hlt p (wk.yields i H x H' hlt q y)⟩
  · have e : i = n := by omega
    subst e
    exact .inl ⟨wk.stops H q, hd H p⟩
theorem ev_lc2 {α β γ : Type} {xs : List α} {en : α → D} {ys : α → List β} {en1 : β → D} {p : α → Bool} {q : α → β → Bool} {fd : α → β → γ} {en2 : γ → D} {g g1 : TG} {vs vs1 : List Nat}
    (hi : EVI K M σ H wi G (xs.map en)) (hG : ∀ {M M' : Addr → Prop} {H H' : Hp}, Ex M M' H H' → G M H H') (hg : GMono g) (hg1 : GMono g1)
    (hz : (((xs.filter p).flatMap fun x => ((ys x).filter (q x)).map (fd x))).length ≤ sizeLine)
    (hb : ∀ x ∈ xs, ∀ M' H' v, Wd M' H' → Ex M M' H H' → rD K (Fx M' H') (en x) v → g v (wipe σ vs) H' fun σ2 H2 => H2 = H' ∧ wipe σ2 vs = wipe σ vs ∧ ∀ M2 H3, Wd M2 H3 → Ex M M2 H H3 → Lx M' M2 H' H3 →
      EVT M2 σ2 H3 tt (p x) ∧ (p x = true → EVI K M2 σ2 H3 wi1 GI ((ys x).map en1) ∧
      ∀ y ∈ ys x, ∀ u, rD K (Fx M2 H3) (en1 y) u → g1 u (wipe σ2 vs1) H3 fun σ3 H4 => H4 = H3 ∧ wipe σ3 vs1 = wipe σ2 vs1 ∧ EVT M2 σ3 H3 tt1 (q x y) ∧ (q x y = true → EV K M2 σ3 H3 t (.im (en2 (fd x y)))))) :
    EV K M σ H (tLc2 wi g tt wi1 g1 tt1 t vs vs1) (.im (eL en2 ((xs.filter p).flatMap fun x => ((ys x).filter (q x)).map (fd x)))) := fun M1 H1 w s Q k => hi M1 H1 w s _ fun J H2 w2 s2 wk D nD => by
  have mD : ¬ M1 D := w2.free nD
  have sD : Same H2 (L2.upd H2 D (.lst [])) := Same.new nD
  obtain ⟨F, eF⟩ : ∃ F : α → List γ, F = fun x => ((ys x).filter (q x)).map (fd x) := ⟨_, rfl⟩
  rw [← eF] at hz
  have pre : ∀ i, (((xs.take i).filter p).flatMap F).length ≤ (((xs.filter p).flatMap F)).length := fun i => by
    have e : xs.filter p = (xs.take i).filter p ++ (xs.drop i).filter p := by rw [← List.filter_append, List.take_append_drop]
    rw [e, List.flatMap_append, List.length_append]
    omega
  refine lc2o_it wk (fun i H' => Wd (adM M1 D) H' ∧ Ex M1 (adM M1 D) H2 H' ∧ ∃ ws, H' D = some (.lst ws) ∧ rDs K (Fx (adM M1 D) H') ((((xs.take i).filter p).flatMap F).map en2) ws)
    ⟨(w2.same sD).add (by rw [upd_same]; exact fun z => nomatch z), Ex.add sD nD, [], upd_same, rfl⟩ (fun i H' _ z => hG z.2.1) ?_ ?_
  · rintro i x H3 H4 hi' ⟨w3, s3, ws, hD, hws⟩ ⟨s4, d, hd, hr⟩
    rw [List.getElem?_map] at hd
    obtain ⟨y, hy, rfl⟩ := Option.map_eq_some_iff.mp hd
    have hr := hr _ w3 s3.lx
    have w4 := w3.same s4
    have s24 := s3.sm s4
    have tk : xs.take (i + 1) = xs.take i ++ [y] := by rw [List.take_add_one, hy]; rfl
    have pi := pre (i + 1)
    refine hg _ _ _ _ _ ?_ (hb y (List.mem_of_getElem? hy) _ H4 x w4 ((s.sm s2).trans s24) hr)
    rintro σ2 H5 ⟨rfl, hw, hin⟩
    obtain ⟨ht, he⟩ := hin _ H5 w4 ((s.sm s2).trans s24) Lx.refl
    refine ⟨hw, ht _ H5 w4 Ex.refl _ fun H6 w6 s6 => ?_⟩
    cases hp : p y with
    | false =>
      refine iteF ?_
      refine ⟨w6, s24.sm s6, ws, s6 _ _ (s4 _ _ hD), ?_⟩
      rw [tk, List.filter_append]
      have e1 : [y].filter p = [] := by simp [hp]
      rw [e1, List.append_nil]
      exact (hws.same s4).same s6
    | true =>
      refine iteT ?_
      have e1 : (xs.take (i + 1)).filter p = (xs.take i).filter p ++ [y] := by rw [tk, List.filter_append]; simp [hp]
      have fl : ((xs.take (i + 1)).filter p).flatMap F = ((xs.take i).filter p).flatMap F ++ F y := by rw [e1, List.flatMap_append]; simp
      rw [fl] at pi ⊢
      obtain ⟨hi1, _⟩ := he hp
      refine hi1 _ H6 w6 (Ex.same s6) _ fun J1 H7 w7 s7 wk1 => ?_
      have s57 : Same H5 H7 := s6.trans s7
      refine lc2_it wk1 (fun j H' => Wd (adM M1 D) H' ∧ Ex M1 (adM M1 D) H2 H' ∧ Lx (adM M1 D) (adM M1 D) H5 H' ∧ Lx (adM M1 D) (adM M1 D) H7 H' ∧ ∃ ws, H' D = some (.lst ws) ∧ rDs K (Fx (adM M1 D) H') ((((xs.take i).filter p).flatMap F ++ (((ys y).take j).filter (q y)).map (fd y)).map en2) ws)
        ⟨w7, s24.sm s57, Lx.same s57, Lx.refl, ws, s57 _ _ (s4 _ _ hD), by simp only [List.take_zero, List.filter_nil, List.map_nil, List.append_nil]; exact (hws.same s4).same s57⟩ (fun j H' _ z => ⟨_, z.2.2.2.1⟩) ?_ ?_
      · rintro j u H8 H9 hj ⟨w8, s8, l8, k8, ws8, hD8, hws8⟩ ⟨s9, d, hd, hr9⟩
        rw [List.getElem?_map] at hd
        obtain ⟨b, hb', rfl⟩ := Option.map_eq_some_iff.mp hd
        have hr9 := hr9 _ w8 k8
        have w9 := w8.same s9
        have tk1 : (ys y).take (j + 1) = (ys y).take j ++ [b] := by rw [List.take_add_one, hb']; rfl
        obtain ⟨_, he9⟩ := hin _ H9 w9 ((s.sm s2).trans (s8.sm s9)) (l8.trans (Lx.same s9))
        refine hg1 _ _ _ _ _ ?_ ((he9 hp).2 b (List.mem_of_getElem? hb') u hr9)
        rintro σ3 H10 ⟨rfl, hw3, ht3, he3⟩
        refine ⟨hw3, ht3 _ H10 w9 Ex.refl _ fun H11 w11 s11 => ?_⟩
        cases hq : q y b with
        | false =>
          refine iteF ?_
          refine ⟨w11, (s8.sm s9).sm s11, (l8.trans (Lx.same s9)).trans (Lx.same s11), (k8.trans (Lx.same s9)).trans (Lx.same s11), ws8, s11 _ _ (s9 _ _ hD8), ?_⟩
          rw [tk1, List.filter_append]
          have e2 : [b].filter (q y) = [] := by simp [hq]
          rw [e2, List.append_nil]
          exact (hws8.same s9).same s11
        | true =>
          refine iteT ?_
          refine he3 hq _ H11 w11 (Ex.same s11) _ fun v H12 w12 s12 hv => ?_
          have s912 : Same H10 H12 := s11.trans s12
          have lu : Lx (adM M1 D) (adM M1 D) H12 (L2.upd H12 D (.lst (ws8 ++ [v]))) := Lx.upd (.inr rfl)
          have e2 : (((ys y).take (j + 1)).filter (q y)).map (fd y) = (((ys y).take j).filter (q y)).map (fd y) ++ [fd y b] := by
            rw [tk1, List.filter_append, List.map_append]
            simp [hq]
          have ln : (((xs.take i).filter p).flatMap F ++ (((ys y).take j).filter (q y)).map (fd y)).length < sizeLine := by
            have : (((ys y).take (j + 1)).filter (q y)).length ≤ ((ys y).filter (q y)).length := by
              have e : (ys y).filter (q y) = ((ys y).take (j + 1)).filter (q y) ++ ((ys y).drop (j + 1)).filter (q y) := by rw [← List.filter_append, List.take_append_drop]
              rw [e, List.length_append]
              omega
            have e3 := congrArg List.length e2
            rw [List.length_append, List.length_map, List.length_map] at e3
            have e4 : (F y).length = ((ys y).filter (q y)).length := by rw [eF]; simp
            rw [List.length_append, List.length_map]
            rw [List.length_append, e4] at pi
            simp only [List.length_cons, List.length_nil] at e3
            omega
          refine ⟨ws8, s912 _ _ (s9 _ _ hD8), by rw [hws8.len, List.length_map]; exact ln, w12.upd, ⟨fun r o h => ?_, s8.u, s8.n⟩, ((l8.trans (Lx.same s9)).trans (Lx.same s912)).trans lu, ((k8.trans (Lx.same s9)).trans (Lx.same s912)).trans lu, ws8 ++ [v], upd_same, ?_⟩
          · rw [upd_ne (ne_of_none h nD)]
            exact s912 _ _ (s9 _ _ (s8.s _ _ h))
          · rw [e2, ← List.append_assoc, List.map_append]
            exact (rDs.mono lu _ _ ((hws8.same s9).same s912)).append (rDs.one (rD.mono lu _ _ hv))
      · rintro H8 ⟨w8, s8, l8, k8, ws8, hD8, hws8⟩
        refine ⟨w8, s8, ws8, hD8, ?_⟩
        rw [List.length_map, List.take_length] at hws8
        rw [eF]
        rw [eF] at hws8
        exact hws8
  · rintro H3 ⟨w3, s3, ws, hD, hws⟩
    rw [List.length_map, List.take_length] at hws
    refine k _ H3 (fun q hq => w3 q (.inl hq)) (s2.trans s3.s) ⟨D, ws, rfl, ⟨hD, mD⟩, ?_⟩
    rw [← eF]
    exact rDs.mono Lx.del _ _ hws
theorem filt_true {α : Type} (xs : List α) : xs.filter (fun _ => true) = xs := List.filter_eq_self.mpr fun _ _ => rfl
theorem ev_lc2f {α β γ : Type} {xs : List α} {en : α → D} {ys : α → List β} {en1 : β → D} {q : α → β → Bool} {fd : α → β → γ} {en2 : γ → D} {g g1 : TG} {vs vs1 : List Nat}
    (hi : EVI K M σ H wi G (xs.map en)) (hG : ∀ {M M' : Addr → Prop} {H H' : Hp}, Ex M M' H H' → G M H H') (hg : GMono g) (hg1 : GMono g1)
    (hz : ((xs.flatMap fun x => ((ys x).filter (q x)).map (fd x))).length ≤ sizeLine)
    (hb : ∀ x ∈ xs, ∀ M' H' v, Wd M' H' → Ex M M' H H' → rD K (Fx M' H') (en x) v → g v (wipe σ vs) H' fun σ2 H2 => H2 = H' ∧ wipe σ2 vs = wipe σ vs ∧ ∀ M2 H3, Wd M2 H3 → Ex M M2 H H3 → Lx M' M2 H' H3 →
      EVI K M2 σ2 H3 wi1 GI ((ys x).map en1) ∧
      ∀ y ∈ ys x, ∀ u, rD K (Fx M2 H3) (en1 y) u → g1 u (wipe σ2 vs1) H3 fun σ3 H4 => H4 = H3 ∧ wipe σ3 vs1 = wipe σ2 vs1 ∧ EVT M2 σ3 H3 tt1 (q x y) ∧ (q x y = true → EV K M2 σ3 H3 t (.im (en2 (fd x y))))) :
    EV K M σ H (tLc2 wi g tYes wi1 g1 tt1 t vs vs1) (.im (eL en2 (xs.flatMap fun x => ((ys x).filter (q x)).map (fd x)))) := by
  have := ev_lc2 (p := fun _ => true) (q := q) (fd := fd) (en2 := en2) (ys := ys) (tt := tYes) (t := t) (tt1 := tt1) hi hG hg hg1 (by rw [filt_true]; exact hz) fun x hx M' H' v w' s' hv =>
    hg _ _ _ _ _ (fun σ2 H2 z => ⟨z.1, z.2.1, fun M2 H3 w3 s3 l3 => ⟨evt_yes, fun _ => z.2.2 M2 H3 w3 s3 l3⟩⟩) (hb x hx M' H' v w' s' hv)
  rw [filt_true] at this
  exact this
theorem ev_lc2m {α β γ : Type} {xs : List α} {en : α → D} {ys : α → List β} {en1 : β → D} {fd : α → β → γ} {en2 : γ → D} {g g1 : TG} {vs vs1 : List Nat}
    (hi : EVI K M σ H wi G (xs.map en)) (hG : ∀ {M M' : Addr → Prop} {H H' : Hp}, Ex M M' H H' → G M H H') (hg : GMono g) (hg1 : GMono g1)
    (hz : ((xs.flatMap fun x => (ys x).map (fd x))).length ≤ sizeLine)
    (hb : ∀ x ∈ xs, ∀ M' H' v, Wd M' H' → Ex M M' H H' → rD K (Fx M' H') (en x) v → g v (wipe σ vs) H' fun σ2 H2 => H2 = H' ∧ wipe σ2 vs = wipe σ vs ∧ ∀ M2 H3, Wd M2 H3 → Ex M M2 H H3 → Lx M' M2 H' H3 →
      EVI K M2 σ2 H3 wi1 GI ((ys x).map en1) ∧
      ∀ y ∈ ys x, ∀ u, rD K (Fx M2 H3) (en1 y) u → g1 u (wipe σ2 vs1) H3 fun σ3 H4 => H4 = H3 ∧ wipe σ3 vs1 = wipe σ2 vs1 ∧ EV K M2 σ3 H3 t (.im (en2 (fd x y)))) :
    EV K M σ H (tLc2 wi g tYes wi1 g1 tYes t vs vs1) (.im (eL en2 (xs.flatMap fun x => (ys x).map (fd x)))) := by
  have := ev_lc2f (q := fun _ _ => true) (fd := fd) (en2 := en2) (ys := ys) (t := t) (tt1 := tYes) hi hG hg hg1 (by simp only [filt_true]; exact hz) fun x hx M' H' v w' s' hv =>
    hg _ _ _ _ _ (fun σ2 H2 z => ⟨z.1, z.2.1, fun M2 H3 w3 s3 l3 => ⟨(z.2.2 M2 H3 w3 s3 l3).1, fun y hy u hu => hg1 _ _ _ _ _ (fun σ3 H4 z => ⟨z.1, z.2.1, evt_yes, fun _ => z.2.2⟩) ((z.2.2 M2 H3 w3 s3 l3).2 y hy u hu)⟩⟩) (hb x hx M' H' v w' s' hv)
  simp only [filt_true] at this
  exact this
end
end Lf

set_option Elab.async false
set_option linter.all false
set_option maxRecDepth 100000
set_option maxHeartbeats 4000000
/-! tuple * int, of any kind. -/
namespace Lf
open PySem PySem.Spec PyProof.Rows L2
theorem tuple_mulS (l : Addr) (items : Array Value) (n : Nat) (dd : Option Addr) (sl : Array (Option Value)) (x : Int) (u : Tok) (c0 : (decide (x < -(2 ^ 63)) || decide (x ≥ 2 ^ 63)) = false) (c1 : (items.isEmpty || x == 1) = true) :
    Meets (Builtin.«tuple.__mul__» ⟨[.ref l, .int x u], []⟩) (fun _ R s => s.heap.get? l = some { cls := .type "tuple", dict := dd, data := .seq items n, slots := sl } ∧
      R (.ok (.ret (Value.ref l))) s) :=
  .of_wp fun prog w A R s h => by
    obtain ⟨hp, g, d, tk, os⟩ := s
    obtain ⟨hl, h⟩ := h
    have f1 := AutoSeq1.idx_int
    wp_walk using wpAny_loadPart' hl
    repeat (first
      | (refine wpAny_ite_false (decide_eq_false (by rw [c0]; exact Bool.false_ne_true)) ?_; wp_walk using wpAny_loadPart' hl)
      | (refine wpAny_ite_true (decide_eq_true c1) ?_; wp_walk using wpAny_loadPart' hl))
    exact ⟨_, rfl, h⟩
theorem tuple_mul0 (l : Addr) (items : Array Value) (n : Nat) (dd : Option Addr) (sl : Array (Option Value)) (x : Int) (u : Tok) (c0 : (decide (x < -(2 ^ 63)) || decide (x ≥ 2 ^ 63)) = false) (c1 : (items.isEmpty || x == 1) = false) (c2 : (decide (x ≤ 0) || items.isEmpty) = true) :
    Meets (Builtin.«tuple.__mul__» ⟨[.ref l, .int x u], []⟩) (fun _ R s => s.heap.get? l = some { cls := .type "tuple", dict := dd, data := .seq items n, slots := sl } ∧
      R (.ok (.ret (Value.ref s.heap.objs.size))) { s with heap := s.heap.push { cls := Value.type "tuple", data := Data.seq #[] }, toks := s.toks }) :=
  .of_wp fun prog w A R s h => by
    obtain ⟨hp, g, d, tk, os⟩ := s
    obtain ⟨hl, h⟩ := h
    have f1 := AutoSeq1.idx_int
    wp_walk using wpAny_loadPart' hl
    repeat (first
      | (refine wpAny_ite_false (decide_eq_false (by rw [c0]; exact Bool.false_ne_true)) ?_; wp_walk using wpAny_loadPart' hl)
      | (refine wpAny_ite_false (decide_eq_false (by rw [c1]; exact Bool.false_ne_true)) ?_; wp_walk using wpAny_loadPart' hl)
      | (refine wpAny_ite_true (decide_eq_true c2) ?_; wp_walk using wpAny_loadPart' hl))
    exact ⟨_, rfl, h⟩
def rRepA (K : PySem.W.Frag) : R2 := fun x y H Q => ∃ l k xs, x = .ref l ∧ y = .int k ∧ SqT K H l xs ∧ -1000 ≤ k ∧ k ≤ 1000 ∧ xs.length ≤ 1000 ∧ (xs = [] ∨ k = 1 → Q (.ref l) H) ∧ (xs ≠ [] → k ≠ 1 → ∀ p H', H p = none → Same H H' → H' p = some (.tup (List.replicate k.toNat xs).flatten) → Q (.ref p) H')
theorem op_repA {X : Cx} : OpR X (binaryOp .Mult) (rRepA X.K) := by
  intro pins s σ H x y v u Q I rx ry h
  obtain ⟨l, k, xs, rfl, rfl, hT, k0, k1, hz, q1, q2⟩ := h
  by_cases hb : xs ≠ [] ∧ 2 ≤ k
  · exact op_repT pins s σ H _ _ v u Q I rx ry ⟨l, k, xs, rfl, rfl, hT, hb.1, hb.2, k1, hz, fun p hp => q2 hb.1 (by omega) p _ hp (Same.new hp) upd_same⟩
  cases rx
  obtain ⟨t, rfl⟩ := ry
  obtain ⟨its, r, ⟨⟨cls, dd, data, sl⟩, ho, hc, n, hd⟩, hs⟩ := I.tuple hT
  simp only at hc hd
  subst hc hd
  have hle : its.length = xs.length := r.length.symm
  have c0 : (decide (k < -(2 ^ 63)) || decide (k ≥ 2 ^ 63)) = false := by
    rw [decide_eq_false (by omega), decide_eq_false (by omega)] <;> rfl
  by_cases hs1 : xs = [] ∨ k = 1
  · have c1 : (its.toArray.isEmpty || k == 1) = true := by
      rcases hs1 with e | e
      · rw [e] at hle
        cases its with
        | nil => rfl
        | cons a b => cases hle
      · rw [e]; simp
    exact wpAny_binaryOp_repeat_ref (T := "tuple") (U := "int") (by decide) ⟨_, ho, rfl⟩ (fun s' => typeIs_int s' k t) noFill_tuple_mul F.fills_int_mul F.slot_int_rmul repeat_tuple F.slot_int_index.lookup
      (call_meets F.slot_int_rmul (typeIs_int s k t) F.entry_int_rmul (F.args_int_rmul_2 _ _) (int_rmul_tuple k t l its.toArray n dd sl)
        ⟨ho, rfl, ⟨_, ho, rfl⟩, call_meets F.slot_tuple_mul ⟨_, ho, rfl⟩ F.entry_tuple_mul (F.args_tuple_mul_2 _ _) (tuple_mulS l its.toArray n dd sl k t c0 c1) ⟨ho, .ref l, H, I, rfl, q1 hs1⟩⟩)
  · have hne : xs ≠ [] := fun e => hs1 (.inl e)
    have hk1 : k ≠ 1 := fun e => hs1 (.inr e)
    have hk0 : k ≤ 0 := by
      have : ¬ 2 ≤ k := fun z => hb ⟨hne, z⟩
      omega
    have hi : its.toArray.isEmpty = false := by
      cases its with
      | nil => exact absurd (List.eq_nil_of_length_eq_zero hle.symm) hne
      | cons a b => rfl
    have c1 : (its.toArray.isEmpty || k == 1) = false := by
      rw [hi, Bool.false_or]
      exact beq_eq_false_iff_ne.mpr hk1
    have c2 : (decide (k ≤ 0) || its.toArray.isEmpty) = true := by rw [decide_eq_true hk0]; rfl
    refine wpAny_binaryOp_repeat_ref (T := "tuple") (U := "int") (by decide) ⟨_, ho, rfl⟩ (fun s' => typeIs_int s' k t) noFill_tuple_mul F.fills_int_mul F.slot_int_rmul repeat_tuple F.slot_int_index.lookup
      (call_meets F.slot_int_rmul (typeIs_int s k t) F.entry_int_rmul (F.args_int_rmul_2 _ _) (int_rmul_tuple k t l its.toArray n dd sl)
        ⟨ho, rfl, ⟨_, ho, rfl⟩, call_meets F.slot_tuple_mul ⟨_, ho, rfl⟩ F.entry_tuple_mul (F.args_tuple_mul_2 _ _) (tuple_mul0 l its.toArray n dd sl k t c0 c1 c2) ⟨ho, ?_⟩⟩)
    have nd := I.hok.fresh (Nat.le_refl s.heap.objs.size)
    have e0 : (List.replicate k.toNat xs).flatten = [] := by
      have : k.toNat = 0 := by omega
      rw [this]
      rfl
    refine ⟨.ref s.heap.objs.size, _, I.laid (t' := s.toks) (o := .tup (List.replicate k.toNat xs).flatten) (fun b ob q => Heap.get?_push_of_some _ q) (Nat.le_refl _) ?_, rfl, q2 hne hk1 _ _ nd (Same.new nd) upd_same⟩
    rw [e0]
    exact ⟨Nat.zero_le _, [], .nil, IsTup.new _ _⟩
def RepT {α : Type} (xs : List α) (i : Int) : Prop := -1000 ≤ i ∧ i ≤ 1000 ∧ xs.length ≤ 1000
section
variable {K : PySem.W.Frag}
theorem od_repTm {α : Type} {en : α → D} {xs : List α} {i : Int} (h : RepT xs i) : OpD K (rRepA K) (.im (eT en xs)) (.im (.int i)) (.im (eT en (repL xs i))) := fun M H w x y hx hy Q k => by
  obtain ⟨a, vs, rfl, h2, h3⟩ := (show rD K (Fx M H) (.tup (xs.map en)) x from hx)
  have hl : vs.length = xs.length := by rw [h3.len, List.length_map]
  have hr := h3.rep i.toNat
  rw [repL_map] at hr
  refine ⟨a, i, vs, rfl, hy, h2.sq, h.1, h.2.1, by rw [hl]; exact h.2.2, fun e => ?_, fun _ _ p H' np s' hp => ?_⟩
  · refine k _ H w (Same.refl _) ⟨a, vs, rfl, h2, ?_⟩
    have : (List.replicate i.toNat vs).flatten = vs := by
      rcases e with e | e
      · rw [e]
        induction i.toNat with
        | zero => rfl
        | succ m ih => rw [List.replicate_succ, List.flatten_cons, ih]; rfl
      · rw [e]
        show (List.replicate 1 vs).flatten = vs
        simp
    rw [this] at hr
    exact hr
  · exact k _ H' (w.same s') s' ⟨p, _, rfl, .inl (w.new np hp), hr.same s'⟩
end
end Lf

set_option Elab.async false
set_option linter.all false
set_option maxRecDepth 100000
set_option maxHeartbeats 4000000
/-! Texts, chains, options, instances, frozen dicts by data. -/
namespace Lf
open PySem PySem.Spec PyProof.Rows L2
section
variable {K : PySem.W.Frag} {M : Addr → Prop} {σ : L2.St} {H H' : Hp} {t ta tb tc : TE} {tt tu : TT} {tA : TA} {d e f : DV} {b c : Bool} {ds : List DV} {es : List D}
/-! signs of a text -/
def signs (z : Str) : List Str := z.cps.toList.map fun c => (⟨#[c]⟩ : Str)
theorem evi_str {z : Str} (h : EV K M σ H t (.im (.str z))) : EVI K M σ H (iStr t) GI ((signs z).map .str) := fun M' H1 w s R k => h M' H1 w s _ fun v H2 w2 s2 hv => by
  refine ⟨z, hv, k _ H2 w2 s2 ?_⟩
  have e : ((signs z).map D.str).length = z.cps.size := by unfold signs; rw [List.length_map, List.length_map, Array.length_toList]
  rw [e]
  refine walk_str.mono (fun _ _ => True.intro) fun i H' x H'' hi g y => ?_
  obtain ⟨e1, c, hc, e2⟩ := y
  rw [e1]
  refine ⟨Same.refl _, .str ⟨#[c]⟩, ?_, fun M2 _ l => e2⟩
  unfold signs
  rw [List.getElem?_map, List.getElem?_map, Array.getElem?_toList, hc]
  rfl
def inC (x z : Str) : Bool := decide ((x.cps.toList.headD 0) ∈ z.cps.toList)
theorem od_inC {x z : Str} (h : x.length = 1) : OpD K rInS (.im (.str x)) (.im (.str z)) (.im (.bl (inC x z))) := fun M H w u y hu hy Q k => by
  obtain ⟨⟨l⟩⟩ := x
  match l, h with
  | [c], _ => exact ⟨c, z, hu, hy, k _ H w (Same.refl _) rfl⟩
theorem ev_chain {r r' : R2} (ha : EV K M σ H ta d) (hb : EV K M σ H tb e) (hc : EV K M σ H tc f) (h1 : OpD K r d e (.im (.bl b))) (h2 : b = true → OpD K r' e f (.im (.bl c))) : EV K M σ H (tChain r r' ta tb tc) (.im (.bl (b && c))) := fun M' H1 w s Q k =>
  ha M' H1 w s _ fun x H2 w2 s2 hx => hb M' H2 w2 (s.sm s2) _ fun y H3 w3 s3 hy => h1 M' H3 w3 x y (hx.same s3) hy _ fun z H4 w4 s4 hz => by
    refine ⟨b, hz, ?_⟩
    cases b with
    | true =>
      refine iteT (hc M' H4 w4 (s.sm ((s2.trans s3).trans s4)) _ fun u H5 w5 s5 hu => ?_)
      exact h2 rfl M' H5 w5 y u ((hy.same s4).same s5) hu Q fun v H6 w6 s6 hv => k v H6 w6 ((((s2.trans s3).trans s4).trans s5).trans s6) hv
    | false => exact iteF (k _ H4 w4 ((s2.trans s3).trans s4) rfl)
def rSplit : V → List V → Hp → VK → Prop := fun x xs H Q => ∃ a b, x = .str a ∧ xs = [.str b] ∧ (b.length == 0) = false ∧ a.length + 2 ≤ sizeLine ∧ rNewStrs (Txt.split a b) H Q
def rPartn : V → List V → Hp → VK → Prop := fun x xs H Q => ∃ a b, x = .str a ∧ xs = [.str b] ∧ (b.length == 0) = false ∧ a.length ≤ sizeLine ∧
    ∀ p, H p = none → Q (.ref p) (upd H p (.tup [.str (Txt.partition a b).1, .str (Txt.partition a b).2.1, .str (Txt.partition a b).2.2]))
theorem md_split {x y : Str} (hy : (y.length == 0) = false) (hz : x.length + 2 ≤ sizeLine) : MtD K rSplit (.im (.str x)) [.im (.str y)] (.im (.lst ((Txt.split x y).map .str))) := fun M H w u us hu hus Q k => by
  cases hus with
  | cons h1 h2 =>
    cases h2
    cases h1
    exact ⟨x, y, hu, rfl, hy, hz, fun p np => k _ _ (w.same (Same.new np)) (Same.new np) ⟨p, _, rfl, w.new np upd_same, rDs.of_strs _⟩⟩
theorem md_partn {x y : Str} (hy : (y.length == 0) = false) (hz : x.length ≤ sizeLine) : MtD K rPartn (.im (.str x)) [.im (.str y)] (.im (.tup [.str (Txt.partition x y).1, .str (Txt.partition x y).2.1, .str (Txt.partition x y).2.2])) := fun M H w u us hu hus Q k => by
  cases hus with
  | cons h1 h2 =>
    cases h2
    cases h1
    exact ⟨x, y, hu, rfl, hy, hz, fun p np => k _ _ (w.same (Same.new np)) (Same.new np) ⟨p, _, rfl, .inl (w.new np upd_same), ⟨_, _, rfl, rfl, _, _, rfl, rfl, _, _, rfl, rfl, rfl⟩⟩⟩
def rIntS : List V → Hp → VK → Prop := fun xs H Q => ∃ a n, xs = [.str a] ∧ PySem.intText? a = some n ∧ a.length ≤ 640 ∧ Q (.int n) H
def intOf (x : Str) : Int := (PySem.intText? x).getD 0
theorem cd_intS {x : Str} (h : (PySem.intText? x).isSome = true) (hz : x.length ≤ 640) : CaD K rIntS [.im (.str x)] (.im (.int (intOf x))) := fun M H w xs hx Q k => by
  cases hx with
  | cons h1 h2 =>
    cases h2
    cases h1
    obtain ⟨n, hn⟩ := Option.isSome_iff_exists.mp h
    exact ⟨x, n, rfl, hn, hz, k _ H w (Same.refl _) (by unfold intOf; rw [hn]; rfl)⟩
/-! options -/
def isN (d : D) : Bool := match d with
  | .non => true
  | _ => false
theorem rD_non {R : RH} {x : D} {v : V} (h : rD K R x v) : decide (v = .non) = isN x := by
  cases x with
  | non => cases (show v = .non from h); rfl
  | bl b => cases (show v = _ from h); rfl
  | int b => cases (show v = _ from h); rfl
  | str b => cases (show v = _ from h); rfl
  | lst _ => obtain ⟨_, _, rfl, _⟩ := h; rfl
  | tup _ => obtain ⟨_, _, rfl, _⟩ := h; rfl
  | ob _ _ _ => obtain ⟨_, _, _, rfl, _⟩ := h; rfl
  | dk _ _ => obtain ⟨_, _, _, rfl, _⟩ := h; rfl
  | rf _ => cases (show v = _ from h); rfl
  | ty _ => cases (show v = _ from h); rfl
theorem isN_eO {α : Type} {en : α → D} (h : ∀ x, isN (en x) = false) : ∀ o : Option α, isN (eO en o) = o.isNone
  | none => rfl
  | some x => h x
theorem od_isN {x : D} : OpD K rIsN (.im x) (.im .non) (.im (.bl (isN x))) := fun M H w u y hu hy Q k => ⟨hy, k _ H w (Same.refl _) (by rw [rD_non hu]; rfl)⟩
theorem od_notN {x : D} : OpD K rNotN (.im x) (.im .non) (.im (.bl (!isN x))) := fun M H w u y hu hy Q k => ⟨hy, k _ H w (Same.refl _) (by rw [rD_non hu]; rfl)⟩
theorem od_isNO {α : Type} {en : α → D} {o : Option α} (h : ∀ x, isN (en x) = false) : OpD K rIsN (.im (eO en o)) (.im .non) (.im (.bl o.isNone)) := by rw [← isN_eO h]; exact od_isN
theorem od_notNO {α : Type} {en : α → D} {o : Option α} (h : ∀ x, isN (en x) = false) : OpD K rNotN (.im (eO en o)) (.im .non) (.im (.bl (!o.isNone))) := by rw [← isN_eO h]; exact od_notN
def getO {α : Type} [Inhabited α] (o : Option α) : α := o.getD default
theorem eO_get {α : Type} [Inhabited α] {en : α → D} {o : Option α} (h : o.isSome = true) : eO en o = en (getO o) := by
  cases o with
  | none => cases h
  | some x => rfl
theorem ev_getO {α : Type} [Inhabited α] {en : α → D} {o : Option α} (he : EV K M σ H t (.im (eO en o))) (h : o.isSome = true) : EV K M σ H t (.im (en (getO o))) := by rw [← eO_get (en := en) h]; exact he
/-! fields of instances -/
theorem look_of {R : RH} : ∀ {ns : List Str} {ds : List D} {fs : List (Str × V)} {i : Nat} {nm : Str} {x : D}, fs.map Prod.fst = ns → rDs K R ds (fs.map Prod.snd) → ns.Nodup → ns[i]? = some nm → ds[i]? = some x → ∃ v, fs.lookup nm = some v ∧ rD K R x v
  | [], _, fs, i, nm, x, e, h, nd, hi, hx => by simp at hi
  | n :: ns, ds, [], i, nm, x, e, h, nd, hi, hx => by cases e
  | n :: ns, [], f :: fs, i, nm, x, e, h, nd, hi, hx => by cases (show (_ :: _ : List V) = [] from h)
  | n :: ns, y :: ds, f :: fs, 0, nm, x, e, h, nd, hi, hx => by
    simp only [List.map_cons, List.cons.injEq] at e
    obtain ⟨v, ws, e1, h1, h2⟩ := h
    simp only [List.map_cons, List.cons.injEq] at e1
    cases hi
    cases hx
    refine ⟨f.2, ?_, by rw [e1.1]; exact h1⟩
    obtain ⟨f1, f2⟩ := f
    rw [show n = f1 from e.1.symm]
    exact lk0
  | n :: ns, y :: ds, f :: fs, i + 1, nm, x, e, h, nd, hi, hx => by
    simp only [List.map_cons, List.cons.injEq] at e
    obtain ⟨v, ws, e1, h1, h2⟩ := h
    simp only [List.map_cons, List.cons.injEq] at e1
    rw [← e1.2] at h2
    rw [List.nodup_cons] at nd
    obtain ⟨u, hu, hr⟩ := look_of (i := i) e.2 h2 nd.2 (by simpa using hi) (by simpa using hx)
    refine ⟨u, ?_, hr⟩
    obtain ⟨f1, f2⟩ := f
    rw [lk1 (by
      rw [beq_eq_false_iff_ne]
      intro z
      exact nd.1 (by rw [show n = f1 from e.1.symm, ← z]; exact List.mem_of_getElem? (by simpa using hi)))]
    exact hu
theorem look_none {fs : List (Str × V)} {ns : List Str} {m : Str} (e : fs.map Prod.fst = ns) (h : m ∉ ns) : fs.lookup m = none := by
  induction fs generalizing ns with
  | nil => rfl
  | cons f fs ih =>
    cases ns with
    | nil => cases e
    | cons n ns =>
      simp only [List.map_cons, List.cons.injEq] at e
      obtain ⟨f1, f2⟩ := f
      rw [List.mem_cons, not_or] at h
      rw [lk1 (by rw [beq_eq_false_iff_ne]; intro z; exact h.1 (by rw [z]; exact e.1))]
      exact ih e.2 h.2
theorem ev_fld {C : Addr} {ns : List Str} {xs : List D} {nm : Str} {x : D} (i : Nat) (he : EV K M σ H t (.im (.ob C ns xs))) (hc : Cls K C) (hn : NoAttr K C nm) (nd : ns.Nodup) (hi : ns[i]? = some nm) (hx : xs[i]? = some x) : EV K M σ H (tFld K t nm) (.im x) := fun M' H1 w s Q k =>
  he M' H1 w s _ fun v H2 w2 s2 hv => by
    obtain ⟨a, dx, fs, rfl, h2, h3, h4⟩ := hv
    obtain ⟨u, hu, hr⟩ := look_of h3 h4 nd hi hx
    exact ⟨a, C, dx, fs, u, rfl, h2.1, hc, hn, hu, k u H2 w2 s2 hr⟩
theorem ev_meth {C : Addr} {ns : List Str} {xs : List D} {m : Str} {sp : Sp} {E : XK} (he : EV K M σ H ta (.im (.ob C ns xs))) (hm : m ∉ ns) (ha : EVA K M σ H tA ds) (ho : CaD K (fun vs H Q => sp vs H Q E) (.im (.ob C ns xs) :: ds) f) : EV K M σ H (tMeth C m sp [] E ta tA) f := fun M' H1 w s Q k =>
  he M' H1 w s _ fun v H2 w2 s2 hv => by
    obtain ⟨a, dx, fs, rfl, h2, h3, h4⟩ := id hv
    refine ⟨a, dx, fs, rfl, h2.1, look_none h3 hm, ha M' H2 w2 (s.sm s2) _ fun vs H3 w3 s3 hvs => ?_⟩
    rw [List.append_nil]
    exact ho M' H3 w3 _ (.cons (hv.same s3) hvs) Q fun u H4 w4 s4 hu => k u H4 w4 ((s2.trans s3).trans s4) hu
/-! own in, len -/
theorem od_inOwn {C : Addr} {ns : List Str} {xs : List D} {sp : Sp} {E : XK} {x : DV} {r : Bool} (ng : Bool) (ho : CaD K (fun vs H Q => sp vs H Q E) [.im (.ob C ns xs), x] (.im (.bl r))) : OpD K (rInOwn C sp E ng) x (.im (.ob C ns xs)) (.im (.bl (if ng then !r else r))) := fun M H w u y hu hy Q k => by
  obtain ⟨a, dx, fs, rfl, h2, h3, h4⟩ := id hy
  exact ⟨a, dx, fs, rfl, h2.1, ho M H w _ (.cons hy (.cons hu .nil)) _ fun v H2 w2 s2 hv => ⟨r, hv, k _ H2 w2 s2 rfl⟩⟩
theorem cd_lenOwn {C : Addr} {ns : List Str} {xs : List D} {sp : Sp} {E : XK} {r : Int} (ho : CaD K (fun vs H Q => sp vs H Q E) [.im (.ob C ns xs)] (.im (.int r))) (h0 : 0 ≤ r) (h1 : r < 2 ^ 63) : CaD K (rLenOwn C sp E) [.im (.ob C ns xs)] (.im (.int r)) := fun M H w us hu Q k => by
  cases hu with
  | cons hy hn =>
    cases hn
    obtain ⟨a, dx, fs, rfl, h2, h3, h4⟩ := id hy
    exact ⟨a, dx, fs, rfl, h2.1, ho M H w _ (.cons hy .nil) _ fun v H2 w2 s2 hv => ⟨r, hv, h0, h1, k _ H2 w2 s2 hv⟩⟩
theorem cd_strOwn {C : Addr} {ns : List Str} {xs : List D} {sp : Sp} {E : XK} {r : Str} (ho : CaD K (fun vs H Q => sp vs H Q E) [.im (.ob C ns xs)] (.im (.str r))) : CaD K (rStrOwn C sp E) [.im (.ob C ns xs)] (.im (.str r)) := fun M H w us hu Q k => by
  cases hu with
  | cons hy hn =>
    cases hn
    obtain ⟨a, dx, fs, rfl, h2, h3, h4⟩ := id hy
    exact ⟨a, dx, fs, rfl, h2.1, ho M H w _ (.cons hy .nil) _ fun v H2 w2 s2 hv => ⟨r, hv, k _ H2 w2 s2 hv⟩⟩
/-! frozen dicts with text keys -/
def eK {α : Type} (en : α → D) (kvs : List (Str × α)) : D := .dk (kvs.map fun p => (Sum.inr p.1 : Key)) (kvs.map fun p => en p.2)
theorem eK_get {α : Type} {en : α → D} {kvs : List (Str × α)} {v : V} (h : rD K (Fx M H) (eK en kvs) v) : ∃ a o ws, v = .ref a ∧ H a = some (.frz o (.dK ws)) ∧ ws.map Prod.fst = (kvs.map (enA en)).map (fun p => (Sum.inr p.1 : Key)) ∧ rDs K (Fx M H) ((kvs.map (enA en)).map Prod.snd) (ws.map Prod.snd) := by
  obtain ⟨a, o, ws, h1, h2, h3, h4⟩ := h
  refine ⟨a, o, ws, h1, h2.1, ?_, ?_⟩
  · rw [h3, List.map_map]; rfl
  · rw [List.map_map]; exact h4
theorem ev_kget {α : Type} [Inhabited α] {en : α → D} {kvs : List (Str × α)} {k : Str} {td ty : TE} (hd : EV K M σ H td (.im (eK en kvs))) (hk : EV K M σ H ty (.im (.str k))) (h : hasA kvs k = true) : EV K M σ H (tDGet td ty) (.im (en (getA kvs k))) := fun M' H1 w s Q kq =>
  hd M' H1 w s _ fun x H2 w2 s2 hx => hk M' H2 w2 (s.sm s2) _ fun y H3 w3 s3 hy => by
    obtain ⟨a, o, ws, rfl, h2, h0, h3⟩ := eK_get (hx.same s3)
    cases hy
    obtain ⟨v, hv, hr⟩ := val_of h0 h3 h
    exact ⟨a, v, rfl, .inl ⟨ws, Sum.inr k, .inr ⟨o, h2⟩, rfl, hv.symm⟩, kq _ H3 w3 (s2.trans s3) hr⟩
theorem ev_kin {α : Type} {en : α → D} {kvs : List (Str × α)} {k : Str} {td ty : TE} (hd : EV K M σ H td (.im (eK en kvs))) (hk : EV K M σ H ty (.im (.str k))) : EV K M σ H (tDIn ty td) (.im (.bl (hasA kvs k))) := fun M' H1 w s Q kq =>
  hk M' H1 w s _ fun y H2 w2 s2 hy => hd M' H2 w2 (s.sm s2) _ fun x H3 w3 s3 hx => by
    obtain ⟨a, o, ws, rfl, h2, h0, h3⟩ := eK_get hx
    cases hy
    refine ⟨a, _, rfl, .inl ⟨ws, Sum.inr k, .inr ⟨o, h2⟩, rfl, rfl⟩, ?_⟩
    rw [has_of h0]
    exact kq _ H3 w3 (s2.trans s3) rfl
theorem ev_knin {α : Type} {en : α → D} {kvs : List (Str × α)} {k : Str} {td ty : TE} (hd : EV K M σ H td (.im (eK en kvs))) (hk : EV K M σ H ty (.im (.str k))) : EV K M σ H (tDNotIn ty td) (.im (.bl (!hasA kvs k))) := fun M' H1 w s Q kq =>
  hk M' H1 w s _ fun y H2 w2 s2 hy => hd M' H2 w2 (s.sm s2) _ fun x H3 w3 s3 hx => by
    obtain ⟨a, o, ws, rfl, h2, h0, h3⟩ := eK_get hx
    cases hy
    refine ⟨a, _, rfl, .inl ⟨ws, Sum.inr k, .inr ⟨o, h2⟩, rfl, rfl⟩, ?_⟩
    rw [has_of h0]
    exact kq _ H3 w3 (s2.trans s3) rfl
theorem yd_pair {ws : List (Key × V)} {α : Type} {en : α → D} {kvs : List (Str × α)} (hk : ws.map Prod.fst = (kvs.map (enA en)).map (fun p => (Sum.inr p.1 : Key))) {i : Nat} {k : Key} {v : V} (h : ws[i]? = some (k, v)) : ∃ p, kvs[i]? = some p ∧ k = Sum.inr p.1 := by
  have := congrArg (fun l => l[i]?) hk
  simp only [List.getElem?_map, h] at this
  cases e : kvs[i]? with
  | none => rw [e] at this; cases this
  | some p => rw [e] at this; exact ⟨p, rfl, Option.some.inj this⟩
theorem evi_items {α : Type} {en : α → D} {kvs : List (Str × α)} (h : EV K M σ H t (.im (eK en kvs))) : EVI K M σ H (iItems t) GI (kvs.map (eP2 D.str en)) := fun M' H1 w s R k => h M' H1 w s _ fun v H2 w2 s2 hv => by
  obtain ⟨a, o, ws, e1, e2, e3, e4⟩ := id hv
  have e3' : ws.map Prod.fst = (kvs.map (enA en)).map (fun p => (Sum.inr p.1 : Key)) := by rw [e3, List.map_map]; rfl
  have e4' : rDs K (Fx M' H2) ((kvs.map (enA en)).map Prod.snd) (ws.map Prod.snd) := by rw [List.map_map]; exact e4
  refine ⟨a, o, ws, e1, e2.1, k _ H2 w2 s2 ?_⟩
  have e : (kvs.map (eP2 D.str en)).length = ws.length := by
    have := congrArg List.length e3'
    simp only [List.length_map] at this ⊢
    exact this.symm
  rw [e]
  refine walk_items.mono (fun H' g => (g.choose_spec _ _ e2).1) fun i H' x H'' hi g y => ?_
  obtain ⟨T, u1, u2, rfl, nT, rfl, q1, q2⟩ := y
  have hw : ws[i]? = some ws[i] := List.getElem?_eq_getElem hi
  obtain ⟨p, hp, hk⟩ := yd_pair e3' (show ws[i]? = some ((ws[i]).1, (ws[i]).2) from hw)
  simp only [hw, Option.map_some, Option.some.injEq] at q1 q2
  refine ⟨Same.new nT, eP2 D.str en p, by rw [List.getElem?_map, hp]; rfl, fun M2 w3 l => ⟨T, _, rfl, .inl ⟨upd_same, w3.free nT⟩, ⟨_, _, rfl, ?_, _, _, rfl, ?_, rfl⟩⟩⟩
  · rw [← q1, hk]; rfl
  · obtain ⟨d, hd, hr⟩ := e4'.get (i := i) (v := u2) (by rw [List.getElem?_map, hw]; exact congrArg some q2)
    rw [List.getElem?_map, List.getElem?_map, hp] at hd
    cases hd
    exact rD.mono (Fx.same (Same.new nT)) _ _ (rD.mono l _ _ hr)
def rLenDk : List V → Hp → VK → Prop := fun xs H Q => ∃ a kvs, xs = [.ref a] ∧ Rd H a (.dK kvs) ∧ Q (.int kvs.length) H
theorem call_len_dk {X : Cx} : CallR X (.builtin "len") rLenDk := by
  intro pins s σ H xs us Q I r h
  obtain ⟨a, kvs, rfl, hd, q⟩ := h
  cases r with
  | cons r1 r2 =>
    cases r2
    cases r1
    exact d_len I hd fun t s' I' => ⟨.int kvs.length, H, I', ⟨t, rfl⟩, q⟩
theorem cd_lenK {α : Type} {en : α → D} {kvs : List (Str × α)} : CaD K rLenDk [.im (eK en kvs)] (.im (.int kvs.length)) := fun M H w xs hx Q k => by
  cases hx with
  | cons h1 h2 =>
    cases h2
    obtain ⟨a, o, ws, e1, e2, e3, e4⟩ := eK_get h1
    refine ⟨a, ws, by rw [e1], .inr ⟨o, e2⟩, k _ H w (Same.refl _) ?_⟩
    have := congrArg List.length e3
    simp only [List.length_map] at this
    rw [this]; rfl
/-! enumerate, zip -/
def enumI {α : Type} (xs : List α) : List (Int × α) := xs.mapIdx fun i x => ((i : Int), x)
theorem enumI_get {α : Type} {xs : List α} {i : Nat} : (enumI xs)[i]? = xs[i]?.map fun x => ((i : Int), x) := by unfold enumI; rw [List.getElem?_mapIdx]
theorem enumI_len {α : Type} {xs : List α} : (enumI xs).length = xs.length := by unfold enumI; rw [List.length_mapIdx]
theorem evi_enum {α : Type} {en : α → D} {xs : List α} (h : EVA K M σ H tA [.im (.lst (xs.map en))]) : EVI K M σ H (iEnum K tA) GI ((enumI xs).map (eP2 D.int en)) := fun M' H1 w s R k => h M' H1 w s _ fun vs H2 w2 s2 hv => by
  cases hv with
  | cons h1 h2 =>
    cases h2
    obtain ⟨a, vs, rfl, e2, e3⟩ := h1
    refine ⟨a, vs, rfl, SqL.of e2.1, k _ H2 w2 s2 ?_⟩
    have e : ((enumI xs).map (eP2 D.int en)).length = vs.length := by rw [List.length_map, enumI_len, e3.len, List.length_map]
    rw [e]
    refine walk_enum.mono (fun H' g => SqL.of (g.choose_spec _ _ e2).1) fun i H' x H'' hi g y => ?_
    obtain ⟨T, u1, u2, rfl, nT, rfl, q1, q2⟩ := y
    obtain ⟨d, hd, hr⟩ := e3.get q2
    rw [List.getElem?_map] at hd
    obtain ⟨p, hp, rfl⟩ := Option.map_eq_some_iff.mp hd
    refine ⟨Same.new nT, eP2 D.int en ((i : Int), p), by rw [List.getElem?_map, enumI_get, hp]; rfl, fun M2 w3 l => ⟨T, _, rfl, .inl ⟨upd_same, w3.free nT⟩, ⟨_, _, rfl, ?_, _, _, rfl, ?_, rfl⟩⟩⟩
    · exact (Option.some.inj q1).symm
    · exact rD.mono (Fx.same (Same.new nT)) _ _ (rD.mono l _ _ hr)
theorem evi_zip {α β : Type} {en : α → D} {en' : β → D} {xs : List α} {ys : List β} {d e : DV} (h : EVA K M σ H tA [.im (.lst (xs.map en)), .im (.lst (ys.map en'))]) : EVI K M σ H (iZip K tA) GI ((xs.zip ys).map (eP2 en en')) := fun M' H1 w s R k => h M' H1 w s _ fun vs H2 w2 s2 hv => by
  cases hv with
  | cons h1 h2 =>
    cases h2 with
    | cons h2 h3 =>
      cases h3
      obtain ⟨a, vs, rfl, e2, e3⟩ := h1
      obtain ⟨b, us, rfl, f2, f3⟩ := h2
      refine ⟨a, b, vs, us, rfl, SqL.of e2.1, SqL.of f2.1, k _ H2 w2 s2 ?_⟩
      have e : ((xs.zip ys).map (eP2 en en')).length = min vs.length us.length := by rw [List.length_map, List.length_zip, e3.len, List.length_map, f3.len, List.length_map]
      refine (walk_zip e).mono (fun H' g => ⟨SqL.of (g.choose_spec _ _ e2).1, SqL.of (g.choose_spec _ _ f2).1⟩) fun i H' x H'' hi g y => ?_
      obtain ⟨T, u1, u2, rfl, nT, rfl, q1, q2⟩ := y
      obtain ⟨d, hd, hr⟩ := e3.get q1
      rw [List.getElem?_map] at hd
      obtain ⟨p, hp, rfl⟩ := Option.map_eq_some_iff.mp hd
      obtain ⟨d', hd', hr'⟩ := f3.get q2
      rw [List.getElem?_map] at hd'
      obtain ⟨p', hp', rfl⟩ := Option.map_eq_some_iff.mp hd'
      refine ⟨Same.new nT, eP2 en en' (p, p'), by rw [List.getElem?_map, List.getElem?_zip_eq_some (z := (p, p')) |>.mpr ⟨hp, hp'⟩]; rfl, fun M2 w3 l => ⟨T, _, rfl, .inl ⟨upd_same, w3.free nT⟩, ⟨_, _, rfl, ?_, _, _, rfl, ?_, rfl⟩⟩⟩
      · exact rD.mono (Fx.same (Same.new nT)) _ _ (rD.mono l _ _ hr)
      · exact rD.mono (Fx.same (Same.new nT)) _ _ (rD.mono l _ _ hr')
end
end Lf

set_option Elab.async false
set_option linter.all false
set_option maxRecDepth 100000
set_option maxHeartbeats 4000000
/-! x, *y = a list. -/
namespace Lf
open PySem PySem.Spec PySem.Calls PyProof.Rows L2
theorem star_items {prog : Program} {w : World} {A : Around} {E : Value → Shared → Prop} {s : Shared} {l : Addr} {items : Array Value} {Q : List Value → Shared → Prop} (hl : s.heap.IsList l items) (hh : A.handled = none) (hn : 1 ≤ items.size) (hz : items.size ≤ sizeLine)
    (h : ∀ (h' : Heap) (tk : Nat), (∀ b o, s.heap.get? b = some o → h'.get? b = some o) → Q (items.toList.take 1 ++ [.ref h'.objs.size]) { s with heap := h'.push { cls := .type "list", data := .seq (items.toList.drop 1).toArray }, toks := tk }) : wpAny (model prog w) A (unpackItems (.ref l) 2 (some 1)) Q E s := by
  have hlt : l ≠ s.heap.objs.size := by obtain ⟨o, ho, _⟩ := hl; exact Nat.ne_of_lt (Heap.lt_size ho)
  unfold unpackItems
  refine wpAny_bind ?_
  unfold notIterableAtAll
  refine wpAny_bind (wpAny_specialOf hl.typeIs slot_list_iter.lookup ?_)
  refine wpAny_pure ?_
  simp only [Bool.false_eq_true, if_false]
  refine wpAny_bind (wpAny_holding (wpAny_pyIter_list hl ?_))
  refine wpAny_bind (wpAny_holding (PySem.W.kun_draw hlt 1 0 _ _ ⟨_, Heap.get?_push_size _ rfl, rfl, rfl⟩ (hl.push _) (by omega) fun h₁ hit₁ hs₁ => ?_))
  have hl₁ : h₁.IsList l items := (hl.push _).extBut hs₁.extBut hlt
  rw [Nat.zero_add] at hit₁
  have hit₁' := hit₁
  obtain ⟨oi, hoi, _⟩ := hit₁'
  have hl₁' := hl₁
  obtain ⟨ol, hol, _⟩ := hl₁'
  rw [List.drop_zero]
  have hfl : (items.toList.take 1).length = 1 := by rw [List.length_take, Array.length_toList]; omega
  rw [if_neg (show ¬ ((items.toList.take 1).length < 1) by rw [hfl]; omega)]
  refine wpAny_bind (wpAny_holding (PySem.W.kun_collect (s := { s with heap := h₁ }) (T := "list_iterator") (.inr (.inr (.inl rfl))) (Walks.list (A := A.in1) hh s.heap.objs.size l hlt items) (fun j u st => st.1.typeIs) (k := 1) (by omega) ⟨hit₁, hl₁⟩ (Heap.lt_size hoi) (Heap.lt_size hol) (fun h₂ tk hk => ?_) hz))
  have hrl : (items.toList.drop 1).length = items.size - 1 := by rw [List.length_drop, Array.length_toList]
  show wpAny _ _ (if (items.toList.drop 1).length < 0 then _ else _) _ _ _
  rw [if_neg (by omega)]
  show wpAny _ _ (newList ((items.toList.drop 1).take ((items.toList.drop 1).length - 0)) >>= fun d => pure (items.toList.take 1 ++ [d] ++ (items.toList.drop 1).drop ((items.toList.drop 1).length - 0))) _ _ _
  rw [Nat.sub_zero, List.take_length, List.drop_length]
  have he : ∀ b o, s.heap.get? b = some o → h₂.get? b = some o := fun b o e => hk b o (Nat.ne_of_lt (Heap.lt_size e)) (hs₁.extBut b o (Nat.ne_of_lt (Heap.lt_size e)) (Heap.get?_push_of_some _ e))
  refine wpAny_bind (wpAny_newList (s := { s with heap := h₂, toks := tk }) (wpAny_pure ?_) (by rw [hrl]; omega))
  have := h h₂ tk he
  simpa using this
/-- x, *y = a list -/
def gStar1 (K : PySem.W.Frag) (t : TGs) : TG := fun v σ H Q => ∃ (a : Addr) (x : V) (xs : List V), v = .ref a ∧ SqL K H a (x :: xs) ∧ ∀ D H', H D = none → Same H H' → H' D = some (.lst xs) → t [x, .ref D] σ H' Q
theorem pg_star1 {X : Cx} {e1 e2 : Expr} {es : List Expr} {k : Nat} {pos : Pos} {t : TGs} (hc : X.calm = true) (h : PGs X [e1, e2] t)
    (he : (assignEach es X.env).map (·.2) = (assignEach [e1, e2] X.env).map (·.2) := by rfl) (hn : (assignEach es X.env).length = 2 := by rfl) (hst : (assignEach es X.env).findIdx? (·.1) = some 1 := by rfl) : PG X (.Tuple es k pos) (gStar1 X.K t) := by
  refine ⟨fun pins s σ H v u Q I r hw => ?_⟩
  obtain ⟨a, x, xs, e1, hq, hw⟩ := hw
  subst e1
  cases r
  obtain ⟨its, rv, hl, hz⟩ := I.list hq
  rw [assign_Tuple]
  refine wpAny_bind (wpAny_standAt ?_)
  unfold unpack
  rw [hn, hst]
  cases rv with
  | @cons _ u0 _ us r1 r2 =>
  have hsz : (u0 :: us).toArray.size = us.length + 1 := rfl
  refine wpAny_bind (wpAny_holding (star_items hl.isList (I.ok.hd hc) (by rw [hsz]; omega) (by rw [hsz]; have := r2.length; simp only [List.length_cons] at hz; omega) fun h' tk hx => ?_))
  rw [he]
  have I1 : Inv X pins σ H { s with heap := h', toks := tk } := I.kept (t' := tk) hx
  have nf : H h'.objs.size = none := I1.hok.fresh (Nat.le_refl _)
  have I2 : Inv X pins σ (upd H h'.objs.size (.lst xs)) { s with heap := h'.push { cls := .type "list", data := .seq us.toArray }, toks := tk } := I1.laid (t' := tk) (fun b o e => Heap.get?_push_of_some _ e) (Nat.le_refl _) ⟨by simp only [List.length_cons] at hz; omega, us, 0, r2, Heap.get?_push_size _ rfl⟩
  exact h.run pins _ σ _ [x, .ref h'.objs.size] [u0, .ref h'.objs.size] Q I2 (.cons r1 (.cons rfl .nil)) (hw _ _ nf (Same.new nf) upd_same)
section
variable {K : PySem.W.Frag} {M : Addr → Prop} {σ : L2.St} {H : Hp} {te : TE} {u : TS} {D : Ends}
/-- the first and the others -/
theorem st_star1 {α : Type} [Inhabited α] {en : α → Lf.D} {xs : List α} {i j : Nat} (he : EV K M σ H te (.im (.lst (xs.map en)))) (w : Wd M H) (h0 : xs ≠ [])
    (k : ∀ v1 v2 H2, Wd M H2 → Same H H2 → rV K M H2 (.im (en (xs.headD default))) v1 → rV K M H2 (.im (.lst (xs.tail.map en))) v2 → u D ((σ.set i (some v1)).set j (some v2)) H2) : tSeq (tAsg te (gStar1 K (gCons (gName i) (gCons (gName j) gNil)))) u D σ H := by
  refine he.go w fun v H1 w1 s1 hv => ?_
  obtain ⟨a, vs, rfl, h2, h3⟩ := hv
  cases xs with
  | nil => exact absurd rfl h0
  | cons x xs =>
    obtain ⟨v, ws, rfl, h4, h5⟩ := h3
    refine ⟨a, v, ws, rfl, SqL.of h2.1, fun p H2 np s2 hp => ?_⟩
    refine ⟨_, _, rfl, _, _, rfl, rfl, ?_⟩
    exact k v (.ref p) H2 (w1.same s2) (s1.trans s2) (rD.same h4 s2) ⟨p, ws, rfl, w1.new np hp, h5.same s2⟩
end
end Lf

set_option Elab.async false
set_option linter.all false
set_option maxRecDepth 100000
set_option maxHeartbeats 4000000
/-! x op= e; raise. -/
namespace Lf
open PySem PySem.Spec PyProof.Rows L2
theorem ip_mul {X : Cx} : PIp X .Mult rMulI := by
  intro pins s σ H x y v u Q I r1 r2 h
  obtain ⟨i, j, e1, e2, hc, q⟩ := h
  subst e1; subst e2
  obtain ⟨t, rfl⟩ := r1
  obtain ⟨t', rfl⟩ := r2
  exact imul_int ⟨.int _, H, I.tok _, ⟨_, rfl⟩, q⟩ hc.ok
theorem ip_mulW {X : Cx} : PIp X .Mult (rI CMulW fun i j => .int (i * j)) := by
  intro pins s σ H x y v u Q I r1 r2 h
  obtain ⟨i, j, e1, e2, hc, q⟩ := h
  subst e1; subst e2
  obtain ⟨t, rfl⟩ := r1
  obtain ⟨t', rfl⟩ := r2
  exact imul_int ⟨.int _, H, I.tok _, ⟨_, rfl⟩, q⟩ hc.ok
theorem ip_addI {X : Cx} : PIp X .Add rAddI := by
  intro pins s σ H x y v u Q I r1 r2 h
  obtain ⟨i, j, e1, e2, q⟩ := h
  subst e1; subst e2
  obtain ⟨t, rfl⟩ := r1
  obtain ⟨t', rfl⟩ := r2
  exact iadd_int ⟨.int _, H, I.tok _, ⟨_, rfl⟩, q⟩
theorem ip_subI {X : Cx} : PIp X .Sub rSubI := by
  intro pins s σ H x y v u Q I r1 r2 h
  obtain ⟨i, j, e1, e2, q⟩ := h
  subst e1; subst e2
  obtain ⟨t, rfl⟩ := r1
  obtain ⟨t', rfl⟩ := r2
  exact isub_int ⟨.int _, H, I.tok _, ⟨_, rfl⟩, q⟩
section
variable {K : PySem.W.Frag} {M : Addr → Prop} {σ : L2.St} {H : Hp} {te : TE} {u : TS} {D : Ends} {d e : DV} {ti : R2} {i : Nat} {x : V}
theorem st_aug {α : Type} {en : α → Lf.D} {x0 : α} (hs : σ[i]? = some (some x)) (hx : rV K M H d x) (he : EV K M σ H te e) (ho : OpD K ti d e (.im (en x0))) (w : Wd M H)
    (k : ∀ z, z = x0 → ∀ v H2, Wd M H2 → Same H H2 → rV K M H2 (.im (en z)) v → u D (σ.set i (some v)) H2) : tSeq (tAug i te ti) u D σ H :=
  ⟨x, hs, he.go w fun y H2 w2 s2 hy => ho M H2 w2 x y (hx.same s2) hy _ fun v H3 w3 s3 hv => k x0 rfl v H3 w3 (s2.trans s3) hv⟩
theorem st_break {nx bk ct : L2.St → Hp → Prop} {rt : VK} (h : bk σ H) : tSeq tBreak u ⟨nx, rt, bk, ct⟩ σ H := h
theorem st_cont {nx bk ct : L2.St → Hp → Prop} {rt : VK} (h : ct σ H) : tSeq tCont u ⟨nx, rt, bk, ct⟩ σ H := h
/-- a text or None among texts -/
def inO (o : Option Str) (xs : List Str) : Bool := match o with
  | none => false
  | some x => decide (x ∈ xs)
theorem inV_non (xs : List Str) : inV .non (xs.map V.str) = false := by
  induction xs with
  | nil => rfl
  | cons x xs ih =>
    rw [List.map_cons]
    have e : eqV (V.str x) V.non = false := rfl
    simpa [inV, e] using ih
theorem od_inO {o : Option Str} {xs : List Str} {d : DV} (ng : Bool) (h : SqOf d (xs.map .str)) : OpD K (rIn K ng) (.im (eO Lf.D.str o)) d (.im (.bl (if ng then !inO o xs else inO o xs))) := fun M H w u y hu hy Q k => by
  cases o with
  | some x =>
    cases ng with
    | true => exact od_ninS h M H w u y hu hy Q k
    | false => exact od_inS h M H w u y hu hy Q k
  | none =>
    cases (show u = .non from hu)
    obtain ⟨a, vs, rfl, h2, h3⟩ := h.get hy
    rw [h3.strs] at h2
    refine ⟨a, xs.map V.str, rfl, h2, rfl, flat_strs' xs, ?_⟩
    rw [inV_non]
    cases ng <;> exact k _ H w (Same.refl _) rfl
end
end Lf

set_option Elab.async false
set_option linter.all false
set_option maxRecDepth 100000
set_option maxHeartbeats 4000000
/-! Dicts locked for a statement; frozen for good. -/
namespace Lf
open PySem PySem.Spec PyProof.Rows L2
/-- behind the statement the thing at d is written no more -/
def tFrz (t : TS) : TS := fun D σ H => t { D with nx := fun σ' H' => ∃ d u, H' d = some u ∧ Mut (some u) ∧ ∀ od, D.nx σ' (upd H' d (.frz od u)) } σ H
theorem ps_frz {X : Cx} {st : Stmt} {t : TS} (h : PS X st t) : PS X st (tFrz t) := by
  refine ⟨fun pins s σ H D I hw => ?_⟩
  refine thn (h.run pins s σ _ _ I hw) fun f s1 q => ?_
  cases f with
  | next =>
    obtain ⟨σ', H', I2, d, u, hd, mu, q⟩ := q
    obtain ⟨od, I3⟩ := I2.lock hd mu
    exact ⟨σ', _, I3, q od⟩
  | brk => exact q
  | cont => exact q
  | ret v => exact q
theorem st_fld {K : PySem.W.Frag} {ta tv : TE} {f : Str} {u : TS} {D : Ends} {σ : L2.St} {H : Hp} (h : tv σ H fun y H1 => ta σ H1 fun x H2 => ∃ a C dx fs, x = .ref a ∧ H2 a = some (.ins C dx fs) ∧ Cls K C ∧ NoAttr K C f ∧ fs.length < 1000 ∧ u D σ (upd H2 a (.ins C dx (putF f y fs)))) : tSeq (sFld K ta tv f) u D σ H := h
def uFrz2 (u : TS) : TS := fun D σ' H' => ∃ d2 o2, H' d2 = some o2 ∧ Mut (some o2) ∧ ∀ od2, ∃ d o, (upd H' d2 (.frz od2 o2)) d = some o ∧ Mut (some o) ∧ ∀ od, u D σ' (upd (upd H' d2 (.frz od2 o2)) d (.frz od o))
theorem st_frz2 {t u : TS} {D : Ends} {σ : L2.St} {H : Hp} (h : tSeq t (uFrz2 u) D σ H) : tSeq (tFrz (tFrz t)) u D σ H := h
def lk2 (H : Hp) (m f : Addr) (ws us : List (Key × V)) (om ou : Obj) : Hp := upd (upd H m (.frz om (.dK ws))) f (.frz ou (.dK us))
section
variable {H H2 : Hp} {m f : Addr} {ws us : List (Key × V)} {om ou : Obj}
theorem lk2_m (hn : m ≠ f) : lk2 H m f ws us om ou m = some (.frz om (.dK ws)) := by unfold lk2; rw [upd_ne hn, upd_same]
theorem lk2_f : lk2 H m f ws us om ou f = some (.frz ou (.dK us)) := upd_same
theorem lk2_ne {q : Addr} (h1 : q ≠ m) (h2 : q ≠ f) : lk2 H m f ws us om ou q = H q := by unfold lk2; rw [upd_ne h2, upd_ne h1]
theorem lk2_free {d : Addr} (hm : H m = some (.dK ws)) (hf : H f = some (.dK us)) (h : lk2 H m f ws us om ou d = none) : H d = none := by
  by_cases h2 : d = f
  · rw [h2, lk2_f] at h; cases h
  · by_cases h1 : d = m
    · unfold lk2 at h; rw [upd_ne h2, h1, upd_same] at h; cases h
    · rw [lk2_ne h1 h2] at h; exact h
theorem Wd.lk2 {M : Addr → Prop} (w : Wd M H) : Wd M (lk2 H m f ws us om ou) := Wd.upd (Wd.upd w)
theorem lk2_back (hm : H m = some (.dK ws)) (hf : H f = some (.dK us)) (hn : m ≠ f) (s : Same (lk2 H m f ws us om ou) H2) : Same H (upd (upd H2 f (.dK us)) m (.dK ws)) := fun q o e => by
  by_cases h1 : q = m
  · rw [h1, upd_same]; rw [h1, hm] at e; exact e
  · rw [upd_ne h1]
    by_cases h2 : q = f
    · rw [h2, upd_same]; rw [h2, hf] at e; exact e
    · rw [upd_ne h2]
      exact s q o (by rw [lk2_ne h1 h2]; exact e)
end
theorem st_lockIf {tt : TT} {c1 u : TS} {D : Ends} {σ : L2.St} {H : Hp} {m f : Addr} {ws us : List (Key × V)} {M' : Addr → Prop} {b : Bool} (hm : H m = some (.dK ws)) (hf : H f = some (.dK us)) (hn : m ≠ f)
    (ht : ∀ om ou, EVT M' σ (lk2 H m f ws us om ou) tt b ∧ Wd M' (lk2 H m f ws us om ou))
    (yes : b = true → ∀ om ou H2 D', Same (lk2 H m f ws us om ou) H2 → c1 D' σ H2) (no : b = false → ∀ H2, Same H H2 → u D σ H2) : tSeq (tLock (tLock (tIfS tt c1 tNext))) u D σ H := by
  refine ⟨m, .dK ws, hm, True.intro, fun om => ⟨f, .dK us, (by rw [upd_ne (Ne.symm hn)]; exact hf), True.intro, fun ou => ?_⟩⟩
  obtain ⟨h1, h2⟩ := ht om ou
  refine h1.go h2 fun H2 w2 s2 => ?_
  cases b with
  | true => exact iteT (yes rfl om ou H2 _ s2)
  | false =>
    refine iteF ⟨s2 _ _ lk2_f, ?_, no rfl _ (lk2_back hm hf hn s2)⟩
    rw [upd_ne hn]
    exact s2 _ _ (lk2_m hn)
end Lf

set_option Elab.async false
set_option linter.all false
set_option maxRecDepth 100000
set_option maxHeartbeats 4000000
/-! zip of a list or tuple and a list or tuple. -/
namespace Lf
open PySem PySem.Spec PyProof.Rows L2
/-- an iterator over a list (true) or a tuple (false) -/
def ItB (b : Bool) (h : Heap) (it l : Addr) (k : Nat) : Prop := if b = true then h.IsListIter it l k else h.IsTupleIter it l k
def SqB (b : Bool) (h : Heap) (l : Addr) (xs : Array Value) : Prop := if b = true then h.IsList l xs else h.IsTuple l xs
section
variable {b : Bool} {h h' : Heap} {it l : Addr} {k : Nat} {xs : Array Value}
theorem ItB.at (x : ItB b h it l k) (e : ∀ o, h.get? it = some o → h'.get? it = some o) : ItB b h' it l k := by
  cases b with
  | true => exact Heap.IsListIter.at (show h.IsListIter it l k from x) e
  | false => exact Heap.IsTupleIter.at (show h.IsTupleIter it l k from x) e
theorem ItB.ex (x : ItB b h it l k) : ∃ o vs, h.get? it = some o ∧ o.data = .fields vs := by
  cases b with
  | true => obtain ⟨o, e, _, d⟩ := (show h.IsListIter it l k from x); exact ⟨o, _, e, d⟩
  | false => obtain ⟨o, e, _, d⟩ := (show h.IsTupleIter it l k from x); exact ⟨o, _, e, d⟩
theorem SqB.kept (x : SqB b h l xs) (e : ∀ o, h.get? l = some o → h'.get? l = some o) : SqB b h' l xs := by
  cases b with
  | true => obtain ⟨o, q, r⟩ := (show h.IsList l xs from x); exact (show h'.IsList l xs from ⟨o, e o q, r⟩)
  | false => obtain ⟨o, q, r⟩ := (show h.IsTuple l xs from x); exact (show h'.IsTuple l xs from ⟨o, e o q, r⟩)
end
section
variable {prog : Program} {w : World} {A : Around} {E : Value → Shared → Prop} {s : Shared}
theorem nextB_item {b : Bool} {it l : Addr} {i : Nat} {items : Array Value} {x : Value} {Q : Value → Shared → Prop} (hit : ItB b s.heap it l i) (hl : SqB b s.heap l items) (hx : items[i]? = some x)
    (hQ : ∀ h', ItB b h' it l (i + 1) → Heap.SameBut it s.heap h' → Q x { s with heap := h' }) : wpAny (model prog w) A (Builtin.SmallTypes.nextOf (.ref it)) Q E s := by
  cases b with
  | true => exact wpAny_nextOf_list_item hit hl hx hQ
  | false => exact RZ.nextOf_tuple_item hit hl hx hQ
theorem nextB_end {b : Bool} {it l : Addr} {i : Nat} {items : Array Value} {Q : Value → Shared → Prop} (hh : A.handled = none) (hit : ItB b s.heap it l i) (hl : SqB b s.heap l items) (hx : items[i]? = none)
    (hE : ∀ h' e, Heap.ExtBut it s.heap h' → (∃ o, h'.get? e = some o ∧ o.cls = .type "StopIteration") → E (.ref e) { s with heap := h' }) : wpAny (model prog w) A (Builtin.SmallTypes.nextOf (.ref it)) Q E s := by
  cases b with
  | true => exact wpAny_nextOf_list_end hh hit hl hx hE
  | false => exact RZ.nextOf_tuple_end hh hit hl hx hE
theorem zipB_item {b1 b2 : Bool} {z TI TO i1 i2 l1 l2 : Addr} {k1 k2 : Nat} {xs ys : Array Value} {x y a b : Value} {Q : Value → Shared → Prop} (D : ZipApart z TI TO i1 i2 l1 l2)
    (hz : IsZip s.heap z TI TO .none) (hTI : IsPair s.heap TI (.ref i1) (.ref i2)) (hTO : IsPair s.heap TO a b)
    (h1 : ItB b1 s.heap i1 l1 k1) (h2 : ItB b2 s.heap i2 l2 k2) (hl1 : SqB b1 s.heap l1 xs) (hl2 : SqB b2 s.heap l2 ys) (hx : xs[k1]? = some x) (hy : ys[k2]? = some y)
    (hQ : ∀ h', IsZip h' z TI TO (rawInt s.heap.objs.size) → IsPair h' TO x y → ItB b1 h' i1 l1 (k1 + 1) → ItB b2 h' i2 l2 (k2 + 1) → IsPair h' s.heap.objs.size x y → h'.objs.size = s.heap.objs.size + 1 →
      (∀ c o, c ≠ z → c ≠ TO → c ≠ i1 → c ≠ i2 → s.heap.get? c = some o → h'.get? c = some o) → Q (.ref s.heap.objs.size) { s with heap := h' }) :
    wpAny (model prog w) A (Builtin.«zip.__next__» ⟨[.ref z], []⟩) (fun fin s' => ∃ v, fin = .done (.ret v) ∧ Q v s') E s := by
  show wpAny _ _ (field (.ref z) 2 >>= _) _ _ _
  refine wpAny_bind (wpAny_field hz rfl (x := .bool false) rfl ?_)
  show wpAny _ _ (field (.ref z) 3 >>= _) _ _ _
  refine wpAny_bind (wpAny_field hz rfl (x := .ref TI) rfl ?_)
  refine wpAny_bind (wpAny_seqItems hTI rfl ?_)
  show wpAny _ _ (Builtin.SmallTypes.ownedTupleIsFree (.ref z) >>= _) _ _ _
  refine wpAny_bind ?_
  unfold Builtin.SmallTypes.ownedTupleIsFree
  refine wpAny_bind (wpAny_field hz rfl (x := .none) rfl (wpAny_pure ?_))
  simp only [if_true]
  refine wpAny_bind (wpAny_rule ?_)
  refine wpAny_bind (wpAny_field hz rfl (x := .ref TO) rfl ?_)
  refine wpAny_bind (wpAny_setField_rec hz (by simp) fun g1 hz1 hs1 => ?_)
  replace hz1 : IsZip g1 z TI TO .ellipsis := hz1
  refine wpAny_bind ?_
  simp only [List.zipIdx_cons, List.zipIdx_nil, List.forIn_cons, List.forIn_nil]
  refine wpAny_bind (wpAny_bind (wpAny_onRaise ?_))
  show wpAny _ _ (Builtin.SmallTypes.nextOf (.ref i1) >>= _) _ _ _
  refine wpAny_bind (nextB_item (s := { s with heap := g1 }) (h1.at fun o e => hs1.extBut _ _ D.i1z e) (hl1.kept fun o e => hs1.extBut _ _ D.l1z e) hx fun g2 h1a hs2 => wpAny_pure ?_)
  have hTO2 : IsPair g2 TO a b := hs2.extBut _ _ D.TOi1 (hs1.extBut _ _ D.TOz hTO)
  refine wpAny_bind (wpAny_seqItems hTO2 rfl ?_)
  refine wpAny_bind (wpAny_updateSeq_pair hTO2 fun g3 hTO3 hs3 => ?_)
  replace hTO3 : IsPair g3 TO x b := hTO3
  refine wpAny_bind (wpAny_letGo (wpAny_pure ?_))
  refine wpAny_bind (wpAny_bind (wpAny_onRaise ?_))
  show wpAny _ _ (Builtin.SmallTypes.nextOf (.ref i2) >>= _) _ _ _
  refine wpAny_bind (nextB_item (s := { s with heap := g3 }) (h2.at fun o e => hs3.extBut _ _ D.TOi2.symm (hs2.extBut _ _ D.i12.symm (hs1.extBut _ _ D.i2z e))) (hl2.kept fun o e => hs3.extBut _ _ D.l2TO (hs2.extBut _ _ D.l2i1 (hs1.extBut _ _ D.l2z e))) hy fun g4 h2a hs4 => wpAny_pure ?_)
  have hTO4 : IsPair g4 TO x b := hs4.extBut _ _ D.TOi2 hTO3
  refine wpAny_bind (wpAny_seqItems hTO4 rfl ?_)
  refine wpAny_bind (wpAny_updateSeq_pair hTO4 fun g5 hTO5 hs5 => ?_)
  replace hTO5 : IsPair g5 TO x y := hTO5
  refine wpAny_bind (wpAny_letGo (wpAny_pure (wpAny_pure ?_)))
  refine wpAny_bind (wpAny_seqItems hTO5 rfl ?_)
  refine wpAny_bind (wpAny_newTuple ?_)
  have hsz : g5.objs.size = s.heap.objs.size := by rw [hs5.1, hs4.1, hs3.1, hs2.1, hs1.1]
  have hz5 : IsZip g5 z TI TO .ellipsis := hs5.extBut _ _ D.TOz.symm (hs4.extBut _ _ D.i2z.symm (hs3.extBut _ _ D.TOz.symm (hs2.extBut _ _ D.i1z.symm hz1)))
  have hk5 : ∀ c o, c ≠ z → c ≠ TO → c ≠ i1 → c ≠ i2 → s.heap.get? c = some o → g5.get? c = some o := fun c o c1 c2 c3 c4 e =>
    hs5.extBut _ _ c2 (hs4.extBut _ _ c4 (hs3.extBut _ _ c2 (hs2.extBut _ _ c3 (hs1.extBut _ _ c1 e))))
  have h1b : ItB b1 g5 i1 l1 (k1 + 1) := h1a.at fun o e => hs5.extBut _ _ D.TOi1.symm (hs4.extBut _ _ D.i12 (hs3.extBut _ _ D.TOi1.symm e))
  have h2b : ItB b2 g5 i2 l2 (k2 + 1) := h2a.at fun o e => hs5.extBut _ _ D.TOi2.symm e
  have hzlt : z < g5.objs.size := Heap.lt_size hz5
  show wpAny _ _ (Builtin.SmallTypes.ownedTupleHandOut (.ref z) (.ref g5.objs.size) >>= _) _ _ _
  refine wpAny_bind ?_
  unfold Builtin.SmallTypes.ownedTupleHandOut
  have hz6 : IsZip (g5.push { cls := .type "tuple", data := .seq #[x, y] }) z TI TO .ellipsis := Heap.get?_push_of_some _ hz5
  refine wpAny_bind (wpAny_setField_rec hz6 (by simp) fun g7 hz7 hs7 => ?_)
  replace hz7 : IsZip g7 z TI TO (rawInt g5.objs.size) := hz7
  refine wpAny_setField_rec hz7 (by simp) fun g8 hz8 hs8 => ?_
  replace hz8 : IsZip g8 z TI TO (rawInt g5.objs.size) := hz8
  have up : ∀ c o, c ≠ z → g5.get? c = some o → g8.get? c = some o := fun c o c1 e => hs8.extBut _ _ c1 (hs7.extBut _ _ c1 (Heap.get?_push_of_some _ e))
  have hT8 : IsPair g8 g5.objs.size x y := hs8.extBut _ _ (Nat.ne_of_gt hzlt) (hs7.extBut _ _ (Nat.ne_of_gt hzlt) (Heap.get?_push_size _ rfl))
  have hs9 : g8.objs.size = g5.objs.size + 1 := by rw [hs8.1, hs7.1, Heap.size_push]
  rw [hsz] at hz8 hT8 hs9
  refine wpAny_pure ⟨_, rfl, ?_⟩
  show Q (.ref g5.objs.size) _
  rw [hsz]
  exact hQ g8 hz8 (up _ _ D.TOz hTO5) (h1b.at fun o e => up _ o D.i1z e) (h2b.at fun o e => up _ o D.i2z e) hT8 hs9 fun c o c1 c2 c3 c4 e => up c o c1 (hk5 c o c1 c2 c3 c4 e)
theorem zipB_end {b1 b2 : Bool} {z TI TO i1 i2 l1 l2 : Addr} {k1 k2 : Nat} {xs ys : Array Value} {a b : Value} {Q : Fin → Shared → Prop} (hh : A.handled = none) (D : ZipApart z TI TO i1 i2 l1 l2)
    (hz : IsZip s.heap z TI TO .none) (hTI : IsPair s.heap TI (.ref i1) (.ref i2)) (hTO : IsPair s.heap TO a b)
    (h1 : ItB b1 s.heap i1 l1 k1) (h2 : ItB b2 s.heap i2 l2 k2) (hl1 : SqB b1 s.heap l1 xs) (hl2 : SqB b2 s.heap l2 ys) (hend : xs[k1]? = none ∨ ys[k2]? = none)
    (hE : ∀ h' e, (∀ c o, c ≠ z → c ≠ TO → c ≠ i1 → c ≠ i2 → s.heap.get? c = some o → h'.get? c = some o) → (∃ o, h'.get? e = some o ∧ o.cls = .type "StopIteration") → E (.ref e) { s with heap := h' }) :
    wpAny (model prog w) A (Builtin.«zip.__next__» ⟨[.ref z], []⟩) Q E s := by
  show wpAny _ _ (field (.ref z) 2 >>= _) _ _ _
  refine wpAny_bind (wpAny_field hz rfl (x := .bool false) rfl ?_)
  show wpAny _ _ (field (.ref z) 3 >>= _) _ _ _
  refine wpAny_bind (wpAny_field hz rfl (x := .ref TI) rfl ?_)
  refine wpAny_bind (wpAny_seqItems hTI rfl ?_)
  show wpAny _ _ (Builtin.SmallTypes.ownedTupleIsFree (.ref z) >>= _) _ _ _
  refine wpAny_bind ?_
  unfold Builtin.SmallTypes.ownedTupleIsFree
  refine wpAny_bind (wpAny_field hz rfl (x := .none) rfl (wpAny_pure ?_))
  simp only [if_true]
  refine wpAny_bind (wpAny_rule ?_)
  refine wpAny_bind (wpAny_field hz rfl (x := .ref TO) rfl ?_)
  refine wpAny_bind (wpAny_setField_rec hz (by simp) fun g1 hz1 hs1 => ?_)
  replace hz1 : IsZip g1 z TI TO .ellipsis := hz1
  refine wpAny_bind ?_
  simp only [List.zipIdx_cons, List.zipIdx_nil, List.forIn_cons, List.forIn_nil]
  refine wpAny_bind (wpAny_bind (wpAny_onRaise ?_))
  show wpAny _ _ (Builtin.SmallTypes.nextOf (.ref i1) >>= _) _ _ _
  have h1g : ItB b1 g1 i1 l1 k1 := h1.at fun o e => hs1.extBut _ _ D.i1z e
  have l1g : SqB b1 g1 l1 xs := hl1.kept fun o e => hs1.extBut _ _ D.l1z e
  cases hx : xs[k1]? with
  | none =>
    refine wpAny_bind (nextB_end (s := { s with heap := g1 }) hh h1g l1g hx fun g2 e hs2 he => ?_)
    obtain ⟨oe, hoe, hce⟩ := he
    have hz2 : IsZip g2 z TI TO .ellipsis := hs2 _ _ D.i1z.symm hz1
    have hez : e ≠ z := fun x => by subst x; rw [hz2] at hoe; cases hoe; simp at hce
    refine wpAny_setField_rec hz2 (by simp) fun g3 _ hs3 => hE g3 e (fun c o c1 _ c3 _ x => hs3.extBut _ _ c1 (hs2 _ _ c3 (hs1.extBut _ _ c1 x))) ⟨oe, hs3.extBut _ _ hez hoe, hce⟩
  | some x =>
    have hy : ys[k2]? = none := by rcases hend with h | h; rw [hx] at h; cases h; exact h
    refine wpAny_bind (nextB_item (s := { s with heap := g1 }) h1g l1g hx fun g2 h1a hs2 => wpAny_pure ?_)
    have hTO2 : IsPair g2 TO a b := hs2.extBut _ _ D.TOi1 (hs1.extBut _ _ D.TOz hTO)
    refine wpAny_bind (wpAny_seqItems hTO2 rfl ?_)
    refine wpAny_bind (wpAny_updateSeq_pair hTO2 fun g3 hTO3 hs3 => ?_)
    refine wpAny_bind (wpAny_letGo (wpAny_pure ?_))
    refine wpAny_bind (wpAny_bind (wpAny_onRaise ?_))
    show wpAny _ _ (Builtin.SmallTypes.nextOf (.ref i2) >>= _) _ _ _
    refine wpAny_bind (nextB_end (s := { s with heap := g3 }) hh (h2.at fun o e => hs3.extBut _ _ D.TOi2.symm (hs2.extBut _ _ D.i12.symm (hs1.extBut _ _ D.i2z e))) (hl2.kept fun o e => hs3.extBut _ _ D.l2TO (hs2.extBut _ _ D.l2i1 (hs1.extBut _ _ D.l2z e))) hy fun g4 e hs4 he => ?_)
    obtain ⟨oe, hoe, hce⟩ := he
    have hz4 : IsZip g4 z TI TO .ellipsis := hs4 _ _ D.i2z.symm (hs3.extBut _ _ D.TOz.symm (hs2.extBut _ _ D.i1z.symm hz1))
    have hez : e ≠ z := fun x => by subst x; rw [hz4] at hoe; cases hoe; simp at hce
    refine wpAny_setField_rec hz4 (by simp) fun g5 _ hs5 => hE g5 e (fun c o c1 c2 c3 c4 x => hs5.extBut _ _ c1 (hs4 _ _ c4 (hs3.extBut _ _ c2 (hs2.extBut _ _ c3 (hs1.extBut _ _ c1 x))))) ⟨oe, hs5.extBut _ _ hez hoe, hce⟩
theorem nextZ_item {b1 b2 : Bool} {z TI TO i1 i2 l1 l2 : Addr} {k1 k2 : Nat} {xs ys : Array Value} {x y a b : Value} {Q : Option Value → Shared → Prop} (D : ZipApart z TI TO i1 i2 l1 l2)
    (hz : IsZip s.heap z TI TO .none) (hTI : IsPair s.heap TI (.ref i1) (.ref i2)) (hTO : IsPair s.heap TO a b)
    (h1 : ItB b1 s.heap i1 l1 k1) (h2 : ItB b2 s.heap i2 l2 k2) (hl1 : SqB b1 s.heap l1 xs) (hl2 : SqB b2 s.heap l2 ys) (hx : xs[k1]? = some x) (hy : ys[k2]? = some y)
    (hQ : ∀ h', IsZip h' z TI TO (rawInt s.heap.objs.size) → IsPair h' TO x y → ItB b1 h' i1 l1 (k1 + 1) → ItB b2 h' i2 l2 (k2 + 1) → IsPair h' s.heap.objs.size x y → h'.objs.size = s.heap.objs.size + 1 →
      (∀ c o, c ≠ z → c ≠ TO → c ≠ i1 → c ≠ i2 → s.heap.get? c = some o → h'.get? c = some o) → Q (some (.ref s.heap.objs.size)) { s with heap := h' }) :
    wpAny (model prog w) A (pyNext (.ref z)) Q E s := by
  have hT : s.TypeIs (.ref z) "zip" := ⟨_, hz, rfl⟩
  unfold pyNext
  exact wpAny_bind (wpAny_attempt (wpAny_callSpecial?_slot (name := Str.ofString "__next__") hT F.slot_zip_next
    (wpAny_call_entry F.slot_zip_next hT F.entry_zip_next
      (zipB_item D hz hTI hTO h1 h2 hl1 hl2 hx hy fun h' a1 a2 a3 a4 a5 a6 a7 => wpAny_pure (hQ h' a1 a2 a3 a4 a5 a6 a7)) (F.args_zip_next_1 _))))
theorem nextZ_end {b1 b2 : Bool} {z TI TO i1 i2 l1 l2 : Addr} {k1 k2 : Nat} {xs ys : Array Value} {a b : Value} {Q : Option Value → Shared → Prop} (hh : A.handled = none) (D : ZipApart z TI TO i1 i2 l1 l2)
    (hz : IsZip s.heap z TI TO .none) (hTI : IsPair s.heap TI (.ref i1) (.ref i2)) (hTO : IsPair s.heap TO a b)
    (h1 : ItB b1 s.heap i1 l1 k1) (h2 : ItB b2 s.heap i2 l2 k2) (hl1 : SqB b1 s.heap l1 xs) (hl2 : SqB b2 s.heap l2 ys) (hend : xs[k1]? = none ∨ ys[k2]? = none)
    (hQ : ∀ h', (∀ c o, c ≠ z → c ≠ TO → c ≠ i1 → c ≠ i2 → s.heap.get? c = some o → h'.get? c = some o) → Q none { s with heap := h' }) : wpAny (model prog w) A (pyNext (.ref z)) Q E s := by
  have hT : s.TypeIs (.ref z) "zip" := ⟨_, hz, rfl⟩
  unfold pyNext
  refine wpAny_bind (wpAny_attempt (wpAny_callSpecial?_slot (name := Str.ofString "__next__") hT F.slot_zip_next
    (wpAny_call_entry F.slot_zip_next hT F.entry_zip_next (zipB_end hh D hz hTI hTO h1 h2 hl1 hl2 hend fun h' e hk he => ?_) (F.args_zip_next_1 _))))
  obtain ⟨o, ho, hc⟩ := he
  refine wpAny_bind (wpAny_isInstance (T := "StopIteration") (b := true) ⟨o, ho, hc⟩ isSubtype_stop ?_)
  exact wpAny_pure (hQ _ hk)
end
/-- a list (true) or a tuple (false), by values -/
def SqV (b : Bool) (K : PySem.W.Frag) (H : Hp) (a : Addr) (xs : List V) : Prop := if b = true then SqL K H a xs else SqT K H a xs
section
variable {X : Cx} {pins : List (Addr × Obj)} {σ : L2.St} {H : Hp} {s : Shared} {b : Bool} {a : Addr} {xs ys : List V}
theorem SqV.seq (I : Inv X pins σ H s) (h : SqV b X.K H a xs) : ∃ its : List Value, Vals xs its ∧ SqB b s.heap a its.toArray ∧ a < s.heap.objs.size := by
  cases b with
  | true =>
    obtain ⟨its, rv, p, _⟩ := I.list (show SqL X.K H a xs from h)
    exact ⟨its, rv, p.isList, p.lt⟩
  | false =>
    obtain ⟨its, rv, p, _⟩ := I.tuple (show SqT X.K H a xs from h)
    obtain ⟨o, ho, _⟩ := id p
    exact ⟨its, rv, p, Heap.lt_size ho⟩
theorem SqV.inj (I : Inv X pins σ H s) (h : SqV b X.K H a xs) (h' : SqV b X.K H a ys) : xs = ys := by
  cases b with
  | true => exact I.list_inj h h'
  | false => exact I.tuple_inj h h'
end
def ItzB (b1 b2 : Bool) (K : PySem.W.Frag) (a b : Addr) : It :=
  ⟨fun i H => ∃ (xs ys : List V) (x y : V), SqV b1 K H a xs ∧ SqV b2 K H b ys ∧ xs[i]? = some x ∧ ys[i]? = some y,
    fun i H v H' => ∃ T x y, v = .ref T ∧ H T = none ∧ H' = upd H T (.tup [x, y]) ∧ (∀ xs, SqV b1 K H a xs → xs[i]? = some x) ∧ ∀ ys, SqV b2 K H b ys → ys[i]? = some y,
    fun i H => ∃ xs ys : List V, SqV b1 K H a xs ∧ SqV b2 K H b ys ∧ (xs.length ≤ i ∨ ys.length ≤ i)⟩
theorem turn_zipB {b1 b2 : Bool} {P : Program} {w : World} {K : PySem.W.Frag} {elts : List Expr} {kk : Nat} {tpos : Pos} {a b z TI TO i1 i2 : Addr} (D : ZipApart z TI TO i1 i2 a b) :
    Turn P w K (.Tuple elts kk tpos) (ItzB b1 b2 K a b) [z, TI, TO, i1, i2] z (fun i h => IsZip h z TI TO .none ∧ IsPair h TI (.ref i1) (.ref i2) ∧ (∃ x y, IsPair h TO x y) ∧ ItB b1 h i1 a i ∧ ItB b2 h i2 b i) where
  mem := by simp
  obj := fun i h st c hc => by
    obtain ⟨hz, hTI, ⟨x, y, hTO⟩, h1, h2⟩ := st
    obtain ⟨o1, v1, e1, d1⟩ := h1.ex
    obtain ⟨o2, v2, e2, d2⟩ := h2.ex
    have e' : c = z ∨ c = TI ∨ c = TO ∨ c = i1 ∨ c = i2 := by simpa using hc
    rcases e' with q | q | q | q | q
    · rw [q]; exact ⟨_, hz, fun v q => nomatch q⟩
    · rw [q]; exact ⟨_, hTI, fun v q => nomatch q⟩
    · rw [q]; exact ⟨_, hTO, fun v q => nomatch q⟩
    · rw [q]; exact ⟨o1, e1, fun v q => by rw [d1] at q; cases q⟩
    · rw [q]; exact ⟨o2, e2, fun v q => by rw [d2] at q; cases q⟩
  keep := fun i h h' st k => by
    obtain ⟨hz, hTI, ⟨x, y, hTO⟩, h1, h2⟩ := st
    exact ⟨k z (by simp) _ hz, k TI (by simp) _ hTI, ⟨x, y, k TO (by simp) _ hTO⟩, h1.at fun o q => k i1 (by simp) o q, h2.at fun o q => k i2 (by simp) o q⟩
  item := by
    intro X hP hw hK hc i pins s σ H E I hf st hg
    subst hP hw hK
    obtain ⟨hz, hTI, ⟨x0, y0, hTO⟩, h1, h2⟩ := st
    obtain ⟨xs, ys, x, y, hqx, hqy, hx, hy⟩ := hg
    obtain ⟨its, rv, p, _⟩ := hqx.seq I
    obtain ⟨its2, rv2, p2, _⟩ := hqy.seq I
    obtain ⟨u, hu, ru⟩ := rv.get hx
    obtain ⟨u2, hu2, ru2⟩ := rv2.get hy
    have hzl : z < s.heap.objs.size := Heap.lt_size hz
    refine nextZ_item D hz hTI hTO h1 h2 p p2 (x := u) (y := u2) (by simpa using hu) (by simpa using hu2) fun h' z' TO' h1' h2' hT hsz hk => ?_
    refine ⟨_, rfl, wpAny_letOwnedTupleGo_zip (s := { s with heap := h' }) z' fun h'' z'' sb => ?_⟩
    have hT2 : h''.get? s.heap.objs.size = some { cls := .type "tuple", data := .seq #[u, u2] } := (sb.2 _ (Nat.ne_of_gt hzl)).trans hT
    have new : ObjOk X.prog X.w (upd H s.heap.objs.size (.tup [x, y])) h'' s.heap.objs.size (.tup [x, y]) :=
      ⟨by show 2 ≤ sizeLine; decide, [u, u2], .cons ru (.cons ru2 .nil), ⟨_, hT2, rfl, _, rfl⟩⟩
    have I1 : Inv X pins σ (upd H s.heap.objs.size (.tup [x, y])) { s with heap := h'' } :=
      I.turnedNew (t' := s.toks) (ch := [z, TI, TO, i1, i2]) (fun c o hb q => (sb.2 c (fun q' => hb (by simp [q']))).trans (hk c o (fun q' => hb (by simp [q'])) (fun q' => hb (by simp [q'])) (fun q' => hb (by simp [q'])) (fun q' => hb (by simp [q'])) q)) hf (Nat.le_refl _) new
    refine ⟨.ref s.heap.objs.size, _, I1, rfl, ⟨_, x, y, rfl, I.hok.fresh (Nat.le_refl _), rfl, fun l hl => by rw [hl.inj I hqx]; exact hx, fun l hl => by rw [hl.inj I hqy]; exact hy⟩, ⟨z'', ?_, ⟨u, u2, ?_⟩, ?_, ?_⟩, fun c hcm => ?_⟩
    · exact (sb.2 _ D.TIz).trans (hk _ _ D.TIz D.TITO D.TIi1 D.TIi2 hTI)
    · exact (sb.2 _ D.TOz).trans TO'
    · exact h1'.at fun o q => (sb.2 _ D.i1z).trans q
    · exact h2'.at fun o q => (sb.2 _ D.i2z).trans q
    · have hlt : c < s.heap.objs.size := by
        have e' : c = z ∨ c = TI ∨ c = TO ∨ c = i1 ∨ c = i2 := by simpa using hcm
        rcases e' with q | q | q | q | q
        · rw [q]; exact hzl
        · rw [q]; exact Heap.lt_size hTI
        · rw [q]; exact Heap.lt_size hTO
        · rw [q]; obtain ⟨_, _, e1, _⟩ := h1.ex; exact Heap.lt_size e1
        · rw [q]; obtain ⟨_, _, e2, _⟩ := h2.ex; exact Heap.lt_size e2
      rw [upd_ne (Nat.ne_of_lt hlt)]
      exact (hf c hcm).1
  done := by
    intro X hP hw hK hc i pins s σ H E I hf st hg
    subst hP hw hK
    obtain ⟨hz, hTI, ⟨x0, y0, hTO⟩, h1, h2⟩ := st
    obtain ⟨xs, ys, hqx, hqy, hend⟩ := hg
    obtain ⟨its, rv, p, _⟩ := hqx.seq I
    obtain ⟨its2, rv2, p2, _⟩ := hqy.seq I
    have l1 := rv.length
    have l2 := rv2.length
    have he : its.toArray[i]? = none ∨ its2.toArray[i]? = none := by
      rcases hend with q | q
      · exact .inl (by simp; omega)
      · exact .inr (by simp; omega)
    exact nextZ_end (I.ok.hd hc) D hz hTI hTO h1 h2 p p2 he fun h' hk => ⟨rfl, I.turnedL (t' := s.toks) (ch := [z, TI, TO, i1, i2]) (fun c o hb q =>
      hk c o (fun q' => hb (by simp [q'])) (fun q' => hb (by simp [q'])) (fun q' => hb (by simp [q'])) (fun q' => hb (by simp [q'])) q) hf⟩
  self := fun A i s Q E st h => wpAny_pyIter_zip st.1 h
def zmH1 (h : Heap) (l1 : Addr) : Heap := h.push { cls := .type "list_iterator", data := .fields #[.ref l1, .int 0 0] }
abbrev zmH2 (h : Heap) (l1 l2 : Addr) : Heap := (h.push { cls := .type "list_iterator", data := .fields #[.ref l1, .int 0 0] }).push { cls := .type "tuple_iterator", data := .fields #[.ref l2, .int 0 0] }
abbrev zmH3 (h : Heap) (l1 l2 : Addr) : Heap := (zmH2 h l1 l2).push { cls := .type "tuple", data := .seq #[.ref h.objs.size, .ref (h.push { cls := .type "list_iterator", data := .fields #[.ref l1, .int 0 0] }).objs.size] }
abbrev zmH4 (h : Heap) (l1 l2 : Addr) : Heap := (zmH3 h l1 l2).push { cls := .type "tuple", data := .seq #[.none, .none] }
abbrev zmH5 (h : Heap) (l1 l2 : Addr) : Heap := (zmH4 h l1 l2).push { cls := .type "zip", data := .fields #[.none, .bool false, .bool false, .ref (zmH2 h l1 l2).objs.size, .ref (zmH3 h l1 l2).objs.size] }
theorem meets_zipM_new (l1 l2 : Addr) (xs ys : Array Value) :
    Meets (Builtin.«zip.__new__» ⟨[.type "zip", .ref l1, .ref l2], []⟩) (fun _ R s => s.heap.IsList l1 xs ∧ s.heap.IsTuple l2 ys ∧
      R (.ok (.ret (.ref (zmH4 s.heap l1 l2).objs.size))) { s with heap := zmH5 s.heap l1 l2 }) :=
  .of_wp fun prog w A R s h => by
    obtain ⟨hp, g, d, tk, os⟩ := s; obtain ⟨hl1, hl2, h⟩ := h
    have hsub := sub_zip
    have hL1 : Heap.IsList (Shared.heap ⟨hp, g, d, tk, os⟩) l1 xs := hl1
    have hL2 : Heap.IsTuple (Shared.heap ⟨hp.push { cls := .type "list_iterator", data := .fields #[.ref l1, .int 0 0] }, g, d, tk, os⟩) l2 ys := Heap.IsTuple.push hl2 _
    wp_walk using wpAny_pyIter_list hL1, wpAny_pyIter_tuple hL2
    exact ⟨_, rfl, h⟩
section
variable {prog : Program} {w : World} {A : Around} {E : Value → Shared → Prop} {s : Shared}
theorem call_zipM {l1 l2 : Addr} {xs ys : Array Value} {Q : Value → Shared → Prop} (hl1 : s.heap.IsList l1 xs) (hl2 : s.heap.IsTuple l2 ys)
    (h : ∀ h', IsZip h' (s.heap.objs.size + 4) (s.heap.objs.size + 2) (s.heap.objs.size + 3) .none → IsPair h' (s.heap.objs.size + 2) (.ref s.heap.objs.size) (.ref (s.heap.objs.size + 1)) →
      IsPair h' (s.heap.objs.size + 3) .none .none → h'.IsListIter s.heap.objs.size l1 0 → h'.IsTupleIter (s.heap.objs.size + 1) l2 0 → h'.objs.size = s.heap.objs.size + 5 →
      (∀ c o, s.heap.get? c = some o → h'.get? c = some o) → Q (.ref (s.heap.objs.size + 4)) { s with heap := h' }) :
    wpAny (model prog w) A (call (.type "zip") [.ref l1, .ref l2]) Q E s := by
  refine callType_new F.called_zip (by decide) (F.typeCall_zip_2 _ _) (F.newCall_zip_2 _ _) (fun obj => F.args_object_init_3 obj _ _) F.entry_zip_new
    (meets_zipM_new l1 l2 xs ys) ⟨hl1, hl2, ?_⟩
  have z1 : (s.heap.push { cls := .type "list_iterator", data := .fields #[.ref l1, .int 0 0] }).objs.size = s.heap.objs.size + 1 := Heap.size_push ..
  have z2 : (zmH2 s.heap l1 l2).objs.size = s.heap.objs.size + 2 := by rw [Heap.size_push, z1]
  have z3 : (zmH3 s.heap l1 l2).objs.size = s.heap.objs.size + 3 := by rw [Heap.size_push, z2]
  have z4 : (zmH4 s.heap l1 l2).objs.size = s.heap.objs.size + 4 := by rw [Heap.size_push, z3]
  have z5 : (zmH5 s.heap l1 l2).objs.size = s.heap.objs.size + 5 := by rw [Heap.size_push, z4]
  have g5 : (zmH5 s.heap l1 l2).get? (zmH4 s.heap l1 l2).objs.size = some _ := Heap.get?_push_size _ rfl
  have g4 : (zmH5 s.heap l1 l2).get? (zmH3 s.heap l1 l2).objs.size = some _ := Heap.get?_push_of_some _ (Heap.get?_push_size _ rfl)
  have g3 : (zmH5 s.heap l1 l2).get? (zmH2 s.heap l1 l2).objs.size = some _ := Heap.get?_push_of_some _ (Heap.get?_push_of_some _ (Heap.get?_push_size _ rfl))
  have g2 : (zmH5 s.heap l1 l2).get? (s.heap.push { cls := .type "list_iterator", data := .fields #[.ref l1, .int 0 0] }).objs.size = some _ := Heap.get?_push_of_some _ (Heap.get?_push_of_some _ (Heap.get?_push_of_some _ (Heap.get?_push_size _ rfl)))
  have g1 : (zmH5 s.heap l1 l2).get? s.heap.objs.size = some _ := Heap.get?_push_of_some _ (Heap.get?_push_of_some _ (Heap.get?_push_of_some _ (Heap.get?_push_of_some _ (Heap.get?_push_size _ rfl))))
  show _ ∧ _
  rw [z2, z3, z4] at g5
  rw [z1, z2] at g3
  rw [z3] at g4
  rw [z1] at g2
  rw [z4]
  exact ⟨⟨_, g5, rfl⟩, h _ g5 g3 g4 ⟨_, g1, rfl, rfl⟩ ⟨_, g2, rfl, rfl⟩ z5 fun c o x =>
    Heap.get?_push_of_some _ (Heap.get?_push_of_some _ (Heap.get?_push_of_some _ (Heap.get?_push_of_some _ (Heap.get?_push_of_some _ x))))⟩
end
/-- zip(a list, a tuple) -/
def iZipM (K : PySem.W.Frag) (ta : TA) : TI := fun σ H R => ta σ H fun vs H1 => ∃ a b xs ys, vs = [.ref a, .ref b] ∧ SqL K H1 a xs ∧ SqT K H1 b ys ∧ R (ItzB true false K a b) H1
theorem pi_zipM {X : Cx} {e e2 : Expr} {ta : TA} {p pos tpos : Pos} {elts : List Expr} {kk : Nat} (hg : Gl X "zip") (hm : X.mg "zip" = none) (ha : PA X [e, e2] ta)
    (hs : starEach [e, e2] X.env = (false, eval e X.env) :: starEach [e2] X.env := by rfl) (hpl : (backTo pos (starEach [e2] X.env)).any (·.1) = false := by rfl) :
    PI X (.Tuple elts kk tpos) (.Call (.Name "zip" p) [e, e2] [] pos) (iZipM X.K ta) := by
  refine ⟨fun pins s σ H R I h => ?_⟩
  refine Call_ (ld_blt I hg hm PyProof.Rows.boot_zip (PyProof.Rows.callWith_type1 (thn (ha.run pos pins s σ H _ I h) fun us s1 ⟨vs, H1, I1, r1, q1⟩ => ?_) hs hpl))
  obtain ⟨a, b, xs, ys, ex, hqx, hqy, q⟩ := q1
  subst ex
  cases r1 with
  | cons r rr =>
    cases rr with
    | cons r' rr =>
      cases rr
      cases r
      cases r'
      have fresh5 : ∀ c, c ∈ [s1.heap.objs.size + 4, s1.heap.objs.size + 2, s1.heap.objs.size + 3, s1.heap.objs.size, s1.heap.objs.size + 1] → FpOk X pins H1 c := fun c hcm => by
        have hle : s1.heap.objs.size ≤ c := by
          have e' : c = s1.heap.objs.size + 4 ∨ c = s1.heap.objs.size + 2 ∨ c = s1.heap.objs.size + 3 ∨ c = s1.heap.objs.size ∨ c = s1.heap.objs.size + 1 := by simpa using hcm
          rcases e' with z | z | z | z | z <;> rw [z] <;> first | exact Nat.le_add_right _ _ | exact Nat.le_refl _
        exact I1.fpOk hle (I1.hok.fresh hle)
      obtain ⟨its, rv, p1, _⟩ := I1.list hqx
      obtain ⟨its2, rv2, p2, _⟩ := I1.tuple hqy
      obtain ⟨o2, ho2, _⟩ := id p2
      refine call_zipM p1.isList (show s1.heap.IsTuple b its2.toArray from p2) fun h' hz hTI hTO h1 h2 hsz hk => wpAny_pyIter_zip hz ?_
      have I2 : Inv X pins σ H1 { s1 with heap := h' } := I1.kept (t' := s1.toks) hk
      exact ⟨s1.heap.objs.size + 4, [s1.heap.objs.size + 4, s1.heap.objs.size + 2, s1.heap.objs.size + 3, s1.heap.objs.size, s1.heap.objs.size + 1], _, _, H1, rfl, I2, turn_zipB (b1 := true) (b2 := false) (PySem.W.ktu_apart s1.heap.objs.size a b p1.lt (Heap.lt_size ho2)), ⟨hz, hTI, ⟨_, _, hTO⟩, h1, h2⟩, fresh5, q⟩
theorem walk_zipB {b1 b2 : Bool} {K : PySem.W.Frag} {a b : Addr} {xs ys : List V} {n : Nat} (hn : n = min xs.length ys.length) : Walk (ItzB b1 b2 K a b) n (fun H => SqV b1 K H a xs ∧ SqV b2 K H b ys) (YPair (fun i => xs[i]?) (fun i => ys[i]?)) := by
  refine ⟨fun i H hi h => ?_, fun H h => ⟨xs, ys, h.1, h.2, by omega⟩, fun i H v H' hi h y => ?_⟩
  · have h1 : i < xs.length := by omega
    have h2 : i < ys.length := by omega
    exact ⟨xs, ys, xs[i], ys[i], h.1, h.2, List.getElem?_eq_getElem h1, List.getElem?_eq_getElem h2⟩
  · obtain ⟨T, x, y, e1, e2, e3, e4, e5⟩ := y
    exact ⟨T, x, y, e1, e2, e3, e4 xs h.1, e5 ys h.2⟩
theorem evi_zipM {α β : Type} {en : α → D} {en' : β → D} {xs : List α} {ys : List β} {K : PySem.W.Frag} {M : Addr → Prop} {σ : L2.St} {H : Hp} {tA : TA} (h : EVA K M σ H tA [.im (.lst (xs.map en)), .im (.tup (ys.map en'))]) : EVI K M σ H (iZipM K tA) GI ((xs.zip ys).map (eP2 en en')) := fun M' H1 w s R k => h M' H1 w s _ fun vs H2 w2 s2 hv => by
  cases hv with
  | cons h1 h2 =>
    cases h2 with
    | cons h2 h3 =>
      cases h3
      obtain ⟨a, vs, rfl, e2, e3⟩ := h1
      obtain ⟨b, us, rfl, f2, f3⟩ := h2
      refine ⟨a, b, vs, us, rfl, SqL.of e2.1, f2.sq, k _ H2 w2 s2 ?_⟩
      have e : ((xs.zip ys).map (eP2 en en')).length = min vs.length us.length := by rw [List.length_map, List.length_zip, e3.len, List.length_map, f3.len, List.length_map]
      refine (walk_zipB (b1 := true) (b2 := false) e).mono (fun H' g => ⟨SqL.of (g.choose_spec _ _ e2).1, (f2.mono g.choose_spec).sq⟩) fun i H' x H'' hi g y => ?_
      obtain ⟨T, u1, u2, rfl, nT, rfl, q1, q2⟩ := y
      obtain ⟨d, hd, hr⟩ := e3.get q1
      rw [List.getElem?_map] at hd
      obtain ⟨p, hp, rfl⟩ := Option.map_eq_some_iff.mp hd
      obtain ⟨d', hd', hr'⟩ := f3.get q2
      rw [List.getElem?_map] at hd'
      obtain ⟨p', hp', rfl⟩ := Option.map_eq_some_iff.mp hd'
      refine ⟨Same.new nT, eP2 en en' (p, p'), by rw [List.getElem?_map, List.getElem?_zip_eq_some (z := (p, p')) |>.mpr ⟨hp, hp'⟩]; rfl, fun M2 w3 l => ⟨T, _, rfl, .inl ⟨upd_same, w3.free nT⟩, ⟨_, _, rfl, ?_, _, _, rfl, ?_, rfl⟩⟩⟩
      · exact rD.mono (Fx.same (Same.new nT)) _ _ (rD.mono l _ _ hr)
      · exact rD.mono (Fx.same (Same.new nT)) _ _ (rD.mono l _ _ hr')
end Lf

set_option Elab.async false
set_option linter.all false
set_option maxRecDepth 100000
set_option maxHeartbeats 4000000
/-! enumerate of a tuple. -/
namespace Lf
open PySem PySem.Spec PyProof.Rows L2
theorem drawsT {prog : Program} {w : World} {A : Around} (hh : A.handled = none) (it l : Addr) (hne : l ≠ it) (items : Array Value) :
    Draws prog w A it [it, l] items.size (fun i v => items[i]? = some v) (fun i h => h.IsTupleIter it l i ∧ h.IsTuple l items) where
  live := fun _ _ st => let ⟨o, ho, _⟩ := st.1; ⟨o, ho⟩
  frame := fun _ _ _ st hk => ⟨st.1.at fun o e => hk it (by simp) o e, by obtain ⟨o, q, r⟩ := st.2; exact ⟨o, hk l (by simp) o q, r⟩⟩
  item := fun i s Q E hi st hQ => by
    refine RZ.nextOf_tuple_item st.1 st.2 (x := items[i]) (by simp [hi]) fun h' hit' hs' => ?_
    exact hQ _ h' s.toks (by simp [hi]) ⟨hit', st.2.extBut hs'.extBut hne⟩ hs'
  done := fun s Q E st hE => RZ.nextOf_tuple_end hh st.1 st.2 (by simp) hE
theorem meets_enumT_new (l : Addr) (xs : Array Value) :
    Meets (Builtin.«enumerate.__new__» ⟨[.type "enumerate", .ref l], []⟩) (fun _ R s => s.heap.IsTuple l xs ∧
      R (.ok (.ret (.ref (s.heap.push { cls := .type "tuple_iterator", data := .fields #[.ref l, .int 0 0] }).objs.size))) { s with heap := (s.heap.push { cls := .type "tuple_iterator", data := .fields #[.ref l, .int 0 0] }).push { cls := .type "enumerate", data := .fields #[.none, .bool false, .ref s.heap.objs.size, rawInt 0, .none, .none] } }) :=
  .of_wp fun prog w A R s h => by
    obtain ⟨hp, g, d, tk, os⟩ := s; obtain ⟨hl1, h⟩ := h
    have hsub := sub_enumerate
    have hL1 : Heap.IsTuple (Shared.heap ⟨hp, g, d, tk, os⟩) l xs := hl1
    wp_walk
    refine wpAny_stack_any fun st => wpAny_pure ?_
    split
    · rename_i c _ _ _ _ _
      cases (c == Value.type "enumerate")
      · wp_walk using wpAny_pyIter_tuple hL1
        exact ⟨_, rfl, h⟩
      · wp_walk using wpAny_pyIter_tuple hL1
        exact ⟨_, rfl, h⟩
    · wp_walk using wpAny_pyIter_tuple hL1
      exact ⟨_, rfl, h⟩
section
variable {prog : Program} {w : World} {A : Around} {E : Value → Shared → Prop} {s : Shared}
theorem call_enumT {l : Addr} {items : Array Value} {Q : Value → Shared → Prop} (hL : s.heap.IsTuple l items)
    (h : ∀ h', IsEnum h' (s.heap.objs.size + 1) s.heap.objs.size 0 .none → h'.IsTupleIter s.heap.objs.size l 0 → h'.objs.size = s.heap.objs.size + 2 →
      (∀ b o, s.heap.get? b = some o → h'.get? b = some o) → Q (.ref (s.heap.objs.size + 1)) { s with heap := h' }) :
    wpAny (model prog w) A (call (.type "enumerate") [.ref l]) Q E s := by
  refine callType_new F.called_enumerate (by decide) (F.typeCall_enumerate_1 _) (F.newCall_enumerate_1 _) (fun obj => F.args_object_init_2 obj _) F.entry_enumerate_new
    (meets_enumT_new l items) ⟨hL, ?_⟩
  have hz : (s.heap.push { cls := .type "tuple_iterator", data := .fields #[.ref l, .int 0 0] }).objs.size = s.heap.objs.size + 1 := Heap.size_push ..
  show _ ∧ _
  rw [hz]
  have he : IsEnum ((s.heap.push { cls := .type "tuple_iterator", data := .fields #[.ref l, .int 0 0] }).push
      { cls := .type "enumerate", data := .fields #[.none, .bool false, .ref s.heap.objs.size, rawInt 0, .none, .none] }) (s.heap.objs.size + 1) s.heap.objs.size 0 .none := by
    have := Heap.get?_push_size (s.heap.push { cls := .type "tuple_iterator", data := .fields #[.ref l, .int 0 0] })
      (o := { cls := .type "enumerate", data := .fields #[.none, .bool false, .ref s.heap.objs.size, rawInt 0, .none, .none] }) rfl
    rw [hz] at this; exact this
  refine ⟨⟨_, he, rfl⟩, h _ he ⟨_, Heap.get?_push_of_some _ (Heap.get?_push_size _ rfl), rfl, rfl⟩ (by rw [Heap.size_push, hz]) fun b o x => Heap.get?_push_of_some _ (Heap.get?_push_of_some _ x)⟩
end
/-- the tuple at a, each item in a new pair -/
def IteT (K : PySem.W.Frag) (a : Addr) : It :=
  ⟨fun i H => ∃ (xs : List V) (x : V), SqT K H a xs ∧ xs[i]? = some x, fun i H v H' => ∃ T x, v = .ref T ∧ H T = none ∧ H' = upd H T (.tup [.int (i : Nat), x]) ∧ ∀ xs, SqT K H a xs → xs[i]? = some x, fun i H => ∃ xs : List V, SqT K H a xs ∧ xs.length = i⟩
theorem turn_enumT {P : Program} {w : World} {K : PySem.W.Frag} {elts : List Expr} {kk : Nat} {tpos : Pos} (a e it : Addr) :
    Turn P w K (.Tuple elts kk tpos) (IteT K a) [e, it] e (fun i h => (∃ old, IsEnum h e it ((i : Nat) : Int) old) ∧ h.IsTupleIter it a i ∧ e ≠ it ∧ a ≠ it ∧ a ≠ e) where
  mem := by simp
  obj := fun i h st b hb => by
    obtain ⟨⟨old, he⟩, ⟨o, ho, hc, hd⟩, _⟩ := st
    have e' : b = e ∨ b = it := by simpa using hb
    rcases e' with z | z
    · rw [z]; exact ⟨_, he, fun v q => nomatch q⟩
    · rw [z]; exact ⟨o, ho, fun v q => by rw [hd] at q; cases q⟩
  keep := fun i h h' st k => let ⟨⟨old, he⟩, hi, hne⟩ := st; ⟨⟨old, k e (by simp) _ he⟩, hi.at fun o q => k it (by simp) o q, hne⟩
  item := by
    intro X hP hw hK hc i pins s σ H E I hf st hg
    subst hP hw hK
    obtain ⟨⟨old, he⟩, hit, hne, ha1, ha2⟩ := st
    obtain ⟨xs, x, hq, hx⟩ := hg
    obtain ⟨its, rv, p, hz⟩ := I.tuple hq
    obtain ⟨u, hu, ru⟩ := rv.get hx
    have hel : e < s.heap.objs.size := Heap.lt_size he
    have hil : it < s.heap.objs.size := by obtain ⟨_, q, _⟩ := hit; exact Heap.lt_size q
    have hlt : i < its.toArray.size := by
      have := (List.getElem?_eq_some_iff.mp hu).1
      simpa using this
    refine wpAny_pyNext_enum_itemD (drawsT (A := X.A.in1) (I.ok.hd hc) it a ha1 its.toArray) he ⟨hit, p⟩ hlt hne (by simp [hne, Ne.symm ha2]) fun u' h' tk hPx ho hst hT hsz hk => ?_
    have hu' : u' = u := by
      have : its.toArray[i]? = some u := by simpa using hu
      rw [this] at hPx
      exact (Option.some.inj hPx).symm
    subst hu'
    refine ⟨_, rfl, wpAny_letOwnedTupleGo_enum (s := { s with heap := h', toks := tk + 1 }) ho fun h'' he' sb => ?_⟩
    have hT2 : h''.get? s.heap.objs.size = some { cls := .type "tuple", data := .seq #[.int i tk, u'] } := (sb.2 _ (Nat.ne_of_gt hel)).trans hT
    have new : ObjOk X.prog X.w (upd H s.heap.objs.size (.tup [.int (i : Nat), x])) h'' s.heap.objs.size (.tup [.int (i : Nat), x]) :=
      ⟨by show 2 ≤ sizeLine; decide, [.int i tk, u'], .cons ⟨_, rfl⟩ (.cons ru .nil), ⟨_, hT2, rfl, _, rfl⟩⟩
    have I1 : Inv X pins σ (upd H s.heap.objs.size (.tup [.int (i : Nat), x])) { s with heap := h'', toks := tk + 1 } :=
      I.turnedNew (ch := [e, it]) (fun b ob hb q => (sb.2 b (fun z => hb (by simp [z]))).trans (hk b ob (fun z => hb (by simp [z])) (fun z => hb (by simp [z])) q)) hf (Nat.le_refl _) new
    refine ⟨.ref s.heap.objs.size, _, I1, rfl, ⟨_, x, rfl, I.hok.fresh (Nat.le_refl _), rfl, fun ys hy => by rw [I.tuple_inj hy hq]; exact hx⟩, ⟨⟨u', ?_⟩, hst.1.at fun o q => (sb.2 it (Ne.symm hne)).trans q, hne, ha1, ha2⟩, fun b hb => ?_⟩
    · have e1 : ((i + 1 : Nat) : Int) = (i : Int) + 1 := by omega
      rw [e1]; exact he'
    · have hb' : b < s.heap.objs.size := by
        have e' : b = e ∨ b = it := by simpa using hb
        rcases e' with z | z
        · rw [z]; exact hel
        · rw [z]; exact hil
      rw [upd_ne (Nat.ne_of_lt hb')]
      exact (hf b hb).1
  done := by
    intro X hP hw hK hc i pins s σ H E I hf st hg
    subst hP hw hK
    obtain ⟨⟨old, he⟩, hit, hne, ha1, ha2⟩ := st
    obtain ⟨xs, hq, hx⟩ := hg
    obtain ⟨its, rv, p, hz⟩ := I.tuple hq
    obtain ⟨f0, f1, f2, f3, f4, f5⟩ := hf it (by simp)
    have hl := rv.length
    have hi : i = its.toArray.size := by simp; omega
    subst hi
    exact wpAny_pyNext_enum_endD (drawsT (A := X.A.in1) (I.ok.hd hc) it a ha1 its.toArray) he ⟨hit, p⟩ fun h' eb => ⟨rfl, I.turned (t' := s.toks) (fun b o hb q => eb b o hb q) f0 f1 f3 f4 f5⟩
  self := fun A i s Q E st h => let ⟨⟨_, he⟩, _⟩ := st; wpAny_pyIter_enum he h
def iEnumT (K : PySem.W.Frag) (ta : TA) : TI := fun σ H R => ta σ H fun vs H1 => ∃ a xs, vs = [.ref a] ∧ SqT K H1 a xs ∧ R (IteT K a) H1
theorem pi_enumT {X : Cx} {e : Expr} {ta : TA} {p pos tpos : Pos} {elts : List Expr} {kk : Nat} (hg : Gl X "enumerate") (hm : X.mg "enumerate" = none) (ha : PA X [e] ta) (hs : starEach [e] X.env = [(false, eval e X.env)] := by rfl) :
    PI X (.Tuple elts kk tpos) (.Call (.Name "enumerate" p) [e] [] pos) (iEnumT X.K ta) := by
  refine ⟨fun pins s σ H R I h => ?_⟩
  refine Call_ (ld_blt I hg hm boot_enumerate (PyProof.Rows.callWith_type1 (thn (ha.run pos pins s σ H _ I h) fun us s1 ⟨vs, H1, I1, r1, q1⟩ => ?_) hs rfl))
  obtain ⟨a, xs, ex, hq, q⟩ := q1
  subst ex
  cases r1 with
  | cons r rr =>
    cases rr
    cases r
    obtain ⟨its, rv, p', hz⟩ := I1.tuple hq
    obtain ⟨o2, ho2, _⟩ := id p'
    have al : a < s1.heap.objs.size := Heap.lt_size ho2
    refine call_enumT (show s1.heap.IsTuple a its.toArray from p') fun h' he hit hsz hk => wpAny_pyIter_enum he ?_
    have I2 : Inv X pins σ H1 { s1 with heap := h' } := I1.kept (t' := s1.toks) hk
    refine ⟨s1.heap.objs.size + 1, [s1.heap.objs.size + 1, s1.heap.objs.size], _, _, H1, rfl, I2, turn_enumT a (s1.heap.objs.size + 1) s1.heap.objs.size, ⟨⟨.none, he⟩, hit, Nat.succ_ne_self _, Nat.ne_of_lt al, Nat.ne_of_lt (Nat.lt_succ_of_lt al)⟩, fun b hb => ?_, q⟩
    have e' : b = s1.heap.objs.size + 1 ∨ b = s1.heap.objs.size := by simpa using hb
    have hle : s1.heap.objs.size ≤ b := by
      rcases e' with z | z
      · rw [z]; exact Nat.le_add_right _ _
      · rw [z]; exact Nat.le_refl _
    exact I1.fpOk hle (I1.hok.fresh hle)
theorem walk_enumT {K : PySem.W.Frag} {a : Addr} {xs : List V} : Walk (IteT K a) xs.length (fun H => SqT K H a xs) (YPair (fun i => some (.int (i : Nat))) (fun i => xs[i]?)) := by
  refine ⟨fun i _ hi q => ⟨xs, xs[i], q, by simp [hi]⟩, fun _ q => ⟨xs, q, rfl⟩, fun i H v H' _ q y => ?_⟩
  obtain ⟨T, x, h1, h2, h3, h4⟩ := y
  exact ⟨T, .int (i : Nat), x, h1, h2, h3, rfl, h4 xs q⟩
theorem evi_enumT {α : Type} {en : α → D} {xs : List α} {K : PySem.W.Frag} {M : Addr → Prop} {σ : L2.St} {H : Hp} {tA : TA} (h : EVA K M σ H tA [.im (.tup (xs.map en))]) : EVI K M σ H (iEnumT K tA) GI ((enumI xs).map (eP2 D.int en)) := fun M' H1 w s R k => h M' H1 w s _ fun vs H2 w2 s2 hv => by
  cases hv with
  | cons h1 h2 =>
    cases h2
    obtain ⟨a, vs, rfl, e2, e3⟩ := h1
    refine ⟨a, vs, rfl, e2.sq, k _ H2 w2 s2 ?_⟩
    have e : ((enumI xs).map (eP2 D.int en)).length = vs.length := by rw [List.length_map, enumI_len, e3.len, List.length_map]
    rw [e]
    refine walk_enumT.mono (fun H' g => (e2.mono g.choose_spec).sq) fun i H' x H'' hi g y => ?_
    obtain ⟨T, u1, u2, rfl, nT, rfl, q1, q2⟩ := y
    obtain ⟨d, hd, hr⟩ := e3.get q2
    rw [List.getElem?_map] at hd
    obtain ⟨p, hp, rfl⟩ := Option.map_eq_some_iff.mp hd
    refine ⟨Same.new nT, eP2 D.int en ((i : Int), p), by rw [List.getElem?_map, enumI_get, hp]; rfl, fun M2 w3 l => ⟨T, _, rfl, .inl ⟨upd_same, w3.free nT⟩, ⟨_, _, rfl, ?_, _, _, rfl, ?_, rfl⟩⟩⟩
    · exact (Option.some.inj q1).symm
    · exact rD.mono (Fx.same (Same.new nT)) _ _ (rD.mono l _ _ hr)
end Lf

set_option Elab.async false
set_option linter.all false
set_option maxRecDepth 100000
set_option maxHeartbeats 4000000
/-! zip of two tuples, by data; len of fixed tuples; calls that give nothing. -/
namespace Lf
open PySem PySem.Spec PyProof.Rows L2
theorem walk_zipT {K : PySem.W.Frag} {a b : Addr} {xs ys : List V} {n : Nat} (hn : n = min xs.length ys.length) : Walk (RZ.ItzT K a b) n (fun H => SqT K H a xs ∧ SqT K H b ys) (YPair (fun i => xs[i]?) (fun i => ys[i]?)) := by
  refine ⟨fun i H hi h => ?_, fun H h => ⟨xs, ys, h.1, h.2, by omega⟩, fun i H v H' hi h y => ?_⟩
  · have h1 : i < xs.length := by omega
    have h2 : i < ys.length := by omega
    exact ⟨xs, ys, xs[i], ys[i], h.1, h.2, List.getElem?_eq_getElem h1, List.getElem?_eq_getElem h2⟩
  · obtain ⟨T, x, y, e1, e2, e3, e4, e5⟩ := y
    exact ⟨T, x, y, e1, e2, e3, e4 xs h.1, e5 ys h.2⟩
theorem evi_zipT {α β : Type} {en : α → D} {en' : β → D} {xs : List α} {ys : List β} {K : PySem.W.Frag} {M : Addr → Prop} {σ : L2.St} {H : Hp} {tA : TA} (h : EVA K M σ H tA [.im (.tup (xs.map en)), .im (.tup (ys.map en'))]) : EVI K M σ H (RZ.iZipA K tA) GI ((xs.zip ys).map (eP2 en en')) := fun M' H1 w s R k => h M' H1 w s _ fun vs H2 w2 s2 hv => by
  cases hv with
  | cons h1 h2 =>
    cases h2 with
    | cons h2 h3 =>
      cases h3
      obtain ⟨a, vs, rfl, e2, e3⟩ := h1
      obtain ⟨b, us, rfl, f2, f3⟩ := h2
      refine ⟨a, b, vs, us, rfl, .inr ⟨e2.sq, f2.sq, k _ H2 w2 s2 ?_⟩⟩
      have e : ((xs.zip ys).map (eP2 en en')).length = min vs.length us.length := by rw [List.length_map, List.length_zip, e3.len, List.length_map, f3.len, List.length_map]
      refine (walk_zipT e).mono (fun H' g => ⟨(e2.mono g.choose_spec).sq, (f2.mono g.choose_spec).sq⟩) fun i H' x H'' hi g y => ?_
      obtain ⟨T, u1, u2, rfl, nT, rfl, q1, q2⟩ := y
      obtain ⟨d, hd, hr⟩ := e3.get q1
      rw [List.getElem?_map] at hd
      obtain ⟨p, hp, rfl⟩ := Option.map_eq_some_iff.mp hd
      obtain ⟨d', hd', hr'⟩ := f3.get q2
      rw [List.getElem?_map] at hd'
      obtain ⟨p', hp', rfl⟩ := Option.map_eq_some_iff.mp hd'
      refine ⟨Same.new nT, eP2 en en' (p, p'), by rw [List.getElem?_map, List.getElem?_zip_eq_some (z := (p, p')) |>.mpr ⟨hp, hp'⟩]; rfl, fun M2 w3 l => ⟨T, _, rfl, .inl ⟨upd_same, w3.free nT⟩, ⟨_, _, rfl, ?_, _, _, rfl, ?_, rfl⟩⟩⟩
      · exact rD.mono (Fx.same (Same.new nT)) _ _ (rD.mono l _ _ hr)
      · exact rD.mono (Fx.same (Same.new nT)) _ _ (rD.mono l _ _ hr')
theorem cd_lenT2 {K : PySem.W.Frag} {d1 d2 : D} : CaD K (rLenSq K) [.im (.tup [d1, d2])] (.im (.int 2)) := cd_len (es := [d1, d2]) (.inr rfl)
theorem cd_lenT3 {K : PySem.W.Frag} {d1 d2 d3 : D} : CaD K (rLenSq K) [.im (.tup [d1, d2, d3])] (.im (.int 3)) := cd_len (es := [d1, d2, d3]) (.inr rfl)
end Lf

set_option Elab.async false
set_option linter.all false
set_option maxRecDepth 100000
set_option maxHeartbeats 4000000
/-! xs[i] = x and xs[i] op= x of one's own list. -/
namespace Lf
open PySem PySem.Spec PyProof.Rows L2
/-- the list with another item at a place -/
def setI {α : Type} (xs : List α) (i : Int) (x : α) : List α := match ixN xs.length i with
  | some j => xs.set j x
  | none => xs
theorem ixN_some {α : Type} {xs : List α} {i : Int} (h : InB xs i) : ∃ j, ixN xs.length i = some j ∧ j < xs.length := by
  obtain ⟨h1, h2⟩ := h
  unfold ixN
  by_cases h0 : 0 ≤ i
  · rw [if_pos h0, if_pos h2]
    exact ⟨_, rfl, by omega⟩
  · rw [if_neg h0, if_pos h1]
    exact ⟨_, rfl, by omega⟩
theorem setI_nat {α : Type} {xs : List α} {j : Nat} {x : α} (h : j < xs.length) : setI xs (j : Int) x = xs.set j x := by
  unfold setI
  have e : ixN xs.length (j : Int) = some j := by
    unfold ixN
    rw [if_pos (by omega), if_pos (by omega)]
    rfl
  rw [e]
theorem setI_len {α : Type} {xs : List α} {i : Int} {x : α} : (setI xs i x).length = xs.length := by
  unfold setI
  split
  · rw [List.length_set]
  · rfl
section
variable {K : PySem.W.Frag} {M : Addr → Prop} {σ : L2.St} {H : Hp} {te to ti : TE} {D : Ends} {u : TS}
theorem st_sub {t : TSet} (h : te σ H fun x H1 => to σ H1 fun o H2 => ti σ H2 fun i H3 => t o i x H3 fun H4 => u D σ H4) : tSeq (tAsg te (gSub to ti t)) u D σ H := h
theorem x_setL {α : Type} {en : α → Lf.D} {M0 : Addr → Prop} {Ls : List Addr} {L : Addr} {xs : List α} {i : Int} {x : α} {v vx : V} {Q : Hp → Prop} (hd : rV K (mxM M0 Ls) H (.mu L (xs.map en)) v) (hx : rV K (mxM M0 Ls) H (.im (en x)) vx) (hL : L ∈ Ls) (hi : InB xs i)
    (q : ∀ H2, (∃ vs, H2 = L2.upd H L (.lst vs)) → rV K (mxM M0 Ls) H2 (.mu L ((setI xs i x).map en)) v → Q H2) : rSetL v (.int i) vx H Q := by
  obtain ⟨rfl, vs, h2, h3⟩ := hd
  obtain ⟨j, hj, jl⟩ := ixN_some hi
  have hl : vs.length = xs.length := by rw [h3.len, List.length_map]
  refine ⟨L, vs, i, j, rfl, rfl, h2, by rw [hl]; exact hj, q _ ⟨_, rfl⟩ ⟨rfl, _, upd_same, ?_⟩⟩
  have e : (setI xs i x).map en = (xs.map en).set j (en x) := by
    unfold setI
    rw [hj]
    exact List.map_set
  rw [e]
  exact (rDs.mono (Gd.lx_upd hL) _ _ h3).set (rD.mono (Gd.lx_upd hL) _ _ hx)
def rJoin (K : PySem.W.Frag) : V → List V → Hp → VK → Prop := fun x xs H Q => ∃ a p, ∃ ys : List Str, x = .str a ∧ xs = [.ref p] ∧ (SqL K H p (ys.map V.str) ∨ SqT K H p (ys.map V.str)) ∧
  (ys.map (·.length)).sum + ys.length * a.length ≤ 16777216 ∧ Q (.str (Txt.join a ys)) H
theorem md_join {d : DV} {x : Str} {ys : List Str} (h : SqOf d (ys.map .str)) (hz : (ys.map (·.length)).sum + ys.length * x.length ≤ 16777216) : MtD K (rJoin K) (.im (.str x)) [d] (.im (.str (Txt.join x ys))) := fun M H w u us hu hus Q k => by
  cases hu
  cases hus with
  | cons h1 h2 =>
    cases h2
    obtain ⟨a, vs, rfl, e2, e3⟩ := h.get h1
    cases e3.strs
    exact ⟨x, a, ys, rfl, rfl, e2, hz, k _ H w (Same.refl _) rfl⟩
theorem pe_joinR {X : Cx} {o e : Expr} {to te : TE} {apos pos : Pos} (ho : PE X o to) (he : PE X e te) (hs : starEach [e] X.env = [(false, eval e X.env)] := by rfl) (hbase : attributeBase o "join" X.env (eval o X.env) = eval o X.env := by rfl) (hline : (apos.endLine == pos.line) = true := by rfl) :
    PE X (.Call (.Attribute o "join" apos) [e] [] pos) (tM1 (rJoin X.K) to te) := pe_join ho he hs hbase hline
end
end Lf

set_option Elab.async false
set_option linter.all false
set_option maxRecDepth 100000
set_option maxHeartbeats 4000000
/-! A state of one's own; comprehensions with effects; one of some values. -/
namespace Lf
open PySem PySem.Spec PyProof.Rows L2
section
variable {M0 : Addr → Prop} {Ls Y : List Addr} {H0 H H1 H2 : Hp} {K : PySem.W.Frag} {st : Addr}
theorem Gd.callL (g : Gd M0 Ls Y H0 H) (hs : st ∈ Ls) (w : Wd (mxM M0 Ls) H1) (b : Bu [st] H H1) : Gd M0 Ls Y H0 H1 :=
  ⟨w, fun q o e n => b q o (g.bu q o e n) (by rw [List.mem_singleton]; exact ne_of_none e (g.nw st hs)), g.nw, g.nd, g.w0, g.ys⟩
theorem Gd.lx_callL (hs : st ∈ Ls) (b : Bu [st] H H1) : Lx (mxM M0 Ls) (mxM M0 Ls) H H1 := fun q o h => ⟨b q o h.1 (fun hy => h.2 (.inr (by rw [List.mem_singleton.mp hy]; exact hs))), h.2⟩
theorem mu_callL {L : Addr} {x : DV} {v : V} (h : rV K (mxM M0 Ls) H x v) (e : x.ad = some L) (n : L ≠ st) (hs : st ∈ Ls) (b : Bu [st] H H1) : rV K (mxM M0 Ls) H1 x v := by
  have l : Lx (mxM M0 Ls) (mxM M0 Ls) H H1 := Gd.lx_callL hs b
  cases x with
  | im d => cases e
  | mu L' ds =>
    cases e
    obtain ⟨rfl, vs, h2, h3⟩ := h
    exact ⟨rfl, vs, b _ _ h2 (by simpa using n), rDs.mono l _ _ h3⟩
  | md L' kvs =>
    cases e
    obtain ⟨rfl, ws, h2, h0, h3⟩ := h
    exact ⟨rfl, ws, b _ _ h2 (by simpa using n), h0, rDs.mono l _ _ h3⟩
theorem SqL.bu {l : Addr} {xs : List V} (h : SqL K H0 l xs) (b : Bu [] H0 H) : SqL K H l xs := by
  rcases h with h | h
  · left
    rcases h with h | ⟨o, h⟩
    · exact .inl (b _ _ h (fun z => nomatch z))
    · exact .inr ⟨o, b _ _ h (fun z => nomatch z)⟩
  · exact .inr h
end
/-! one of some values -/
def S_of {α : Type} (n : Nat) (xs : List α) (P : α → Nat → Prop) : Prop := n < 2 ^ 28 ∧ xs ≠ [] ∧ xs.length < 2 ^ 28 ∧ ∀ x ∈ xs, P x (n + 1)
def SeqD (d : D) (ds : List D) : Prop := d = .lst ds ∨ ∃ z, d = .str z ∧ ds = (signs z).map .str ∧ z.length ≤ sizeLine
def SofD (n : Nat) (d : D) (P : D → Nat → Prop) : Prop := ∃ ds, SeqD d ds ∧ n < 2 ^ 28 ∧ ds ≠ [] ∧ ds.length < 2 ^ 28 ∧ ∀ x ∈ ds, P x (n + 1)
theorem of_gen {α : Type} {en : α → D} {xs : List α} {n : Nat} {d : D} {P : α → Nat → Prop} (hd : SeqD d (xs.map en)) (h : S_of n xs P) : SofD n d (fun r m => ∃ x, r = en x ∧ P x m) := by
  obtain ⟨h1, h2, h3, h4⟩ := h
  refine ⟨_, hd, h1, by simpa using h2, by rw [List.length_map]; exact h3, fun r hr => ?_⟩
  obtain ⟨x, hx, rfl⟩ := List.mem_map.mp hr
  exact ⟨x, rfl, h4 x hx⟩
/-! a comprehension with effects -/
def LCQ (J : It) (g : TG) (tt : TT) (te : TE) (vs : List Nat) (σ : L2.St) (Q : VK) (D : Addr) (H1 : Hp) : Prop := ∃ W : Nat → Nat → Hp → Prop, (∃ m, W 0 m (upd H1 D (.lst []))) ∧ ∀ i m H, W i m H →
  (J.stop i H ∧ Q (.ref D) H) ∨ (J.go i H ∧ ∃ Nx : Hp → Prop, (∀ H', Nx H' → ∃ m', m' < m ∧ W (i + 1) m' H') ∧ ∀ x H', J.yld i H x H' → g x (wipe σ vs) H' fun σ2 H2 => wipe σ2 vs = wipe σ vs ∧ tt σ2 H2 fun b H3 =>
    if b = true then te σ2 H3 fun y H4 => ∃ acc, H4 D = some (.lst acc) ∧ acc.length < sizeLine ∧ Nx (upd H4 D (.lst (acc ++ [y]))) else Nx H3)
section
variable {wi : TI} {g : TG} {tt : TT} {te : TE} {vs : List Nat} {σ : L2.St} {H : Hp} {Q : VK} {K : PySem.W.Frag} {M : Addr → Prop}
theorem x_lc (h : wi σ H fun J H1 => ∀ D, H1 D = none → LCQ J g tt te vs σ Q D H1) : tLc wi g tt te vs σ H Q := h
theorem lc_itx {J : It} {n : Nat} {G : Hp → Prop} {Yy : Nat → Hp → V → Hp → Prop} {H1 : Hp} {D : Addr} (wk : Walk J n G Yy) (Pv : Nat → Hp → Prop) (h0 : Pv 0 (upd H1 D (.lst []))) (hG : ∀ i H, i ≤ n → Pv i H → G H)
    (hs : ∀ i x H H', i < n → Pv i H → Yy i H x H' → g x (wipe σ vs) H' fun σ2 H2 => wipe σ2 vs = wipe σ vs ∧ tt σ2 H2 fun b H3 =>
      if b = true then te σ2 H3 fun y H4 => ∃ acc, H4 D = some (.lst acc) ∧ acc.length < sizeLine ∧ Pv (i + 1) (upd H4 D (.lst (acc ++ [y]))) else Pv (i + 1) H3) (hd : ∀ H, Pv n H → Q (.ref D) H) : LCQ J g tt te vs σ Q D H1 := lc_it wk Pv h0 hG hs hd
theorem x_yes {A B : Hp → Prop} (h : A H) : tYes σ H fun b H3 => if b = true then A H3 else B H3 := by
  show if true = true then A H else B H
  rw [if_pos rfl]
  exact h
theorem x_push {α : Type} {en : α → D} {M0 : Addr → Prop} {Ls : List Addr} {L : Addr} {xs : List α} {x : α} {v vx : V} {N : Hp → Prop} (h : rV K (mxM M0 Ls) H (.mu L (xs.map en)) v) (hx : rV K (mxM M0 Ls) H (.im (en x)) vx) (hL : L ∈ Ls) (hz : xs.length < sizeLine)
    (k : ∀ H2, (∃ vs, H2 = L2.upd H L (.lst vs)) → rV K (mxM M0 Ls) H2 (.mu L ((xs ++ [x]).map en)) v → N H2) : ∃ acc, H L = some (.lst acc) ∧ acc.length < sizeLine ∧ N (L2.upd H L (.lst (acc ++ [vx]))) := by
  obtain ⟨rfl, vs, h2, h3⟩ := h
  refine ⟨vs, h2, by rw [h3.len, List.length_map]; exact hz, k _ ⟨_, rfl⟩ ⟨rfl, _, upd_same, ?_⟩⟩
  rw [List.map_append]
  exact (rDs.mono (Gd.lx_upd hL) _ _ h3).append (rDs.one (rD.mono (Gd.lx_upd hL) _ _ hx))
/-- len of the law's own list -/
theorem ev_lenSc {i : Nat} {l : Addr} {ns : List Int} (e : σ[i]? = some (some (V.ref l))) (hl : SqL K H l (ns.map V.int)) : EV K M σ H (tCB (rLenSq K) (tCons (tVar i) tNil)) (.im (.int (ns.length : Int))) := fun M' H1 w s Q k => by
  refine ⟨V.ref l, e, l, ns.map V.int, rfl, .inl (SqL.bu hl (Bu.same s.s)), ?_⟩
  rw [List.length_map]
  exact k _ H1 w (Same.refl _) rfl
end
end Lf
namespace Lf
open PySem PySem.Spec PyProof.Rows L2
section
variable {ta tb to te : TE} {tc : TT} {tA : TA} {σ : L2.St} {H : Hp} {Q : VK} {K : PySem.W.Frag} {M : Addr → Prop} {d f : DV} {ds : List DV}
theorem x_ifcut (R : V → Hp → Prop) (h : ∀ Q' : VK, (∀ v H', R v H' → Q' v H') → tIf tc ta tb σ H Q') (k : ∀ v H', R v H' → Q v H') : tIf tc ta tb σ H Q := h Q k
theorem x_if (h : tc σ H fun c H1 => if c = true then ta σ H1 Q else tb σ H1 Q) : tIf tc ta tb σ H Q := h
theorem x_m1 {r : V → List V → Hp → VK → Prop} (h : to σ H fun x H1 => (∃ a, x = .str a) ∧ te σ H1 fun y H2 => r x [y] H2 Q) : tM1 r to te σ H Q := h
theorem x_cb {r : List V → Hp → VK → Prop} (h : tA σ H fun vs H1 => r vs H1 Q) : tCB r tA σ H Q := h
theorem cad_go {r : List V → Hp → VK → Prop} {xs : List V} (h : CaD K r ds f) (w : Wd M H) (hx : rVs K M H ds xs) (k : ∀ v H2, Wd M H2 → Same H H2 → rV K M H2 f v → Q v H2) : r xs H Q := h M H w xs hx Q k
theorem mtd_go {r : V → List V → Hp → VK → Prop} {x : V} {xs : List V} (h : MtD K r d ds f) (w : Wd M H) (hd : rV K M H d x) (hx : rVs K M H ds xs) (k : ∀ v H2, Wd M H2 → Same H H2 → rV K M H2 f v → Q v H2) : r x xs H Q := h M H w x xs hd hx Q k
end
/-- the greatest -/
def maxL (xs : List Int) : Int := xs.tail.foldl (fun m x => if m < x then x else m) (xs.headD 0)
end Lf
namespace Lf
open PySem PySem.Spec PyProof.Rows L2
theorem foldM_spec : ∀ (xs : List Int) (m : Int), (xs.foldl (fun m x => if m < x then x else m) m = m ∨ xs.foldl (fun m x => if m < x then x else m) m ∈ xs) ∧ m ≤ xs.foldl (fun m x => if m < x then x else m) m ∧ ∀ y ∈ xs, y ≤ xs.foldl (fun m x => if m < x then x else m) m
  | [], m => ⟨.inl rfl, Int.le_refl _, fun y hy => nomatch hy⟩
  | x :: xs, m => by
    obtain ⟨h1, h2, h3⟩ := foldM_spec xs (if m < x then x else m)
    rw [List.foldl_cons]
    refine ⟨?_, ?_, fun y hy => ?_⟩
    · rcases h1 with h1 | h1
      · rw [h1]
        by_cases c : m < x
        · rw [if_pos c]; exact .inr (List.mem_cons_self ..)
        · rw [if_neg c]; exact .inl rfl
      · exact .inr (List.mem_cons_of_mem _ h1)
    · refine Int.le_trans ?_ h2
      split <;> omega
    · rcases List.mem_cons.mp hy with rfl | hy
      · refine Int.le_trans ?_ h2
        split <;> omega
      · exact h3 y hy
theorem maxL_spec {ns : List Int} (h : ns ≠ []) : maxL ns ∈ ns ∧ ∀ y ∈ ns, y ≤ maxL ns := by
  cases ns with
  | nil => exact absurd rfl h
  | cons n ns =>
    obtain ⟨h1, h2, h3⟩ := foldM_spec ns n
    refine ⟨?_, fun y hy => ?_⟩
    · rcases h1 with h1 | h1
      · show ns.foldl _ n ∈ _
        rw [h1]; exact List.mem_cons_self ..
      · exact List.mem_cons_of_mem _ h1
    · rcases List.mem_cons.mp hy with rfl | hy
      · exact h2
      · exact h3 y hy
theorem cd_max {K : PySem.W.Frag} {d : DV} {ns : List Int} (hd : LsOf d (ns.map .int)) (h0 : ns ≠ []) : CaD K (rMax K) [d] (.im (.int (maxL ns))) := fun M H w xs hx Q k => by
  cases hx with
  | cons h1 h2 =>
    cases h2
    obtain ⟨a, vs, rfl, e2, e3⟩ := hd.get h1
    cases e3.ints
    refine ⟨a, ns, rfl, SqL.of e2, List.length_pos_iff.mpr h0, fun m h1 h2 => ?_⟩
    obtain ⟨q1, q2⟩ := maxL_spec h0
    have : m = maxL ns := Int.le_antisymm (q2 m h1) (h2 _ q1)
    rw [this]
    exact k _ H w (Same.refl _) rfl
end Lf
namespace Lf
open PySem PySem.Spec PyProof.Rows L2
section
variable {K : PySem.W.Frag} {M : Addr → Prop} {σ : L2.St} {H : Hp}
theorem g_tup4 {i j l m : Nat} {d1 d2 d3 d4 : D} {x : V} {Q : L2.St → Hp → Prop} (h : rD K (Fx M H) (.tup [d1, d2, d3, d4]) x) (k : ∀ v1 v2 v3 v4, rD K (Fx M H) d1 v1 → rD K (Fx M H) d2 v2 → rD K (Fx M H) d3 v3 → rD K (Fx M H) d4 v4 → Q ((((σ.set i (some v1)).set j (some v2)).set l (some v3)).set m (some v4)) H) :
    gTup K 4 (gCons (gName i) (gCons (gName j) (gCons (gName l) (gCons (gName m) gNil)))) x σ H Q := by
  obtain ⟨a, vs, rfl, h2, v1, _, rfl, r1, v2, _, rfl, r2, v3, _, rfl, r3, v4, _, rfl, r4, rfl⟩ := h
  exact ⟨a, _, rfl, h2.sq, rfl, v1, _, rfl, v2, _, rfl, v3, _, rfl, v4, _, rfl, rfl, k v1 v2 v3 v4 r1 r2 r3 r4⟩
theorem gm_tup4 {n i j l m : Nat} : GMono (gTup K n (gCons (gName i) (gCons (gName j) (gCons (gName l) (gCons (gName m) gNil))))) := by
  rintro v σ H Q Q' h ⟨a, xs, h1, h2, h3, v1, r1, h4, v2, r2, h5, v3, r3, h6, v4, r4, h7, h8, h9⟩
  exact ⟨a, xs, h1, h2, h3, v1, r1, h4, v2, r2, h5, v3, r3, h6, v4, r4, h7, h8, h _ _ h9⟩
end
end Lf

set_option Elab.async false
set_option linter.all false
set_option maxRecDepth 100000
set_option maxHeartbeats 4000000
/-! == and in of nested data. -/
namespace Lf
open PySem PySem.Spec PyProof.Rows L2
mutual
def py : D → PyData
  | .non => .none
  | .bl b => .bool b
  | .int i => .int i
  | .str s => .str s
  | .lst ds => .list (pys ds)
  | .tup ds => .tuple (pys ds)
  | .ob _ _ _ => .none
  | .dk _ _ => .none
  | .rf _ => .none
  | .ty _ => .none
def pys : List D → List PyData
  | [] => []
  | d :: ds => py d :: pys ds
end
mutual
/-- plain data -/
def pur : D → Bool
  | .non => true
  | .bl _ => true
  | .int _ => true
  | .str s => PyData.strOk s
  | .lst ds => purs ds
  | .tup ds => purs ds
  | .ob _ _ _ => false
  | .dk _ _ => false
  | .rf _ => false
  | .ty _ => false
def purs : List D → Bool
  | [] => true
  | d :: ds => pur d && purs ds
end
mutual
def dep : D → Nat
  | .lst ds => deps ds + 1
  | .tup ds => deps ds + 1
  | _ => 0
def deps : List D → Nat
  | [] => 0
  | d :: ds => max (dep d) (deps ds)
end
theorem pys_map (ds : List D) : pys ds = ds.map py := by
  induction ds with
  | nil => rw [pys]; rfl
  | cons d ds ih => rw [pys, ih, List.map_cons]
theorem purs_all (ds : List D) : purs ds = ds.all pur := by
  induction ds with
  | nil => rw [purs]; rfl
  | cons d ds ih => rw [purs, ih, List.all_cons]
theorem deps_le {ds : List D} {n : Nat} (h : ∀ d ∈ ds, dep d ≤ n) : deps ds ≤ n := by
  induction ds with
  | nil => rw [deps]; exact Nat.zero_le _
  | cons d ds ih =>
    rw [deps]
    exact Nat.max_le.mpr ⟨h d (List.mem_cons_self ..), ih fun x hx => h x (List.mem_cons_of_mem _ hx)⟩
def Shp (d : D) : Prop := pur d = true ∧ dep d ≤ 60

mutual
theorem lay_pur : ∀ d : D, pur d = true → (py d).canLay0 = true
  | .non, _ => rfl
  | .bl _, _ => rfl
  | .int _, _ => rfl
  | .str s, h => by rw [py]; exact h
  | .lst ds, h => by rw [py]; rw [pur] at h; exact lay_purs ds h
  | .tup ds, h => by rw [py]; rw [pur] at h; exact lay_purs ds h
  | .ob _ _ _, h => by rw [pur] at h; cases h
  | .dk _ _, h => by rw [pur] at h; cases h
  | .rf _, h => by rw [pur] at h; cases h
  | .ty _, h => by rw [pur] at h; cases h
theorem lay_purs : ∀ ds : List D, purs ds = true → PyData.canLayAll0 (pys ds) = true
  | [], _ => rfl
  | d :: ds, h => by
    rw [pys]
    rw [purs, Bool.and_eq_true] at h
    show ((py d).canLay0 && PyData.canLayAll0 (pys ds)) = true
    rw [lay_pur d h.1, lay_purs ds h.2]
    rfl
end
mutual
theorem dep_py : ∀ d : D, (py d).depth ≤ dep d + 1
  | .non => by rw [py]; decide
  | .bl _ => by rw [py]; exact Nat.le_add_left _ _
  | .int _ => by rw [py]; exact Nat.le_add_left _ _
  | .str s => by rw [py]; exact Nat.le_add_left _ _
  | .lst ds => by
    rw [py, dep]
    have := deps_py ds
    show PyData.depthAll (pys ds) + 1 ≤ _
    omega
  | .tup ds => by
    rw [py, dep]
    have := deps_py ds
    show PyData.depthAll (pys ds) + 1 ≤ _
    omega
  | .ob _ _ _ => by rw [py]; exact Nat.le_add_left _ _
  | .dk _ _ => by rw [py]; exact Nat.le_add_left _ _
  | .rf _ => by rw [py]; exact Nat.le_add_left _ _
  | .ty _ => by rw [py]; exact Nat.le_add_left _ _
theorem deps_py : ∀ ds : List D, PyData.depthAll (pys ds) ≤ deps ds + 1
  | [] => by rw [pys]; exact Nat.zero_le _
  | d :: ds => by
    rw [pys, deps]
    have h1 := dep_py d
    have h2 := deps_py ds
    show max (py d).depth (PyData.depthAll (pys ds)) ≤ _
    omega
end
theorem Shp.shaped {d : D} (h : Shp d) : SeqAt.shaped (py d) = true := by
  unfold SeqAt.shaped
  rw [lay_pur d h.1, decide_eq_true (by have := dep_py d; have := h.2; omega)]
  rfl
section
variable {K : PySem.W.Frag} {M : Addr → Prop} {H : Hp}
mutual
theorem dp_of : ∀ (d : D) (v : V), pur d = true → rD K (Fx M H) d v → Dp K H v (py d)
  | .non, v, _, h => by cases (show v = .non from h); rw [py]; exact .non
  | .bl b, v, _, h => by cases (show v = .bl b from h); rw [py]; exact .bl b
  | .int b, v, _, h => by cases (show v = .int b from h); rw [py]; exact .int b
  | .str b, v, _, h => by cases (show v = .str b from h); rw [py]; exact .str b
  | .lst ds, v, hp, h => by
    obtain ⟨a, vs, rfl, h2, h3⟩ := h
    rw [py]
    rw [pur] at hp
    exact .lst (SqL.of h2.1) (dps_of ds vs hp h3)
  | .tup ds, v, hp, h => by
    obtain ⟨a, vs, rfl, h2, h3⟩ := h
    rw [py]
    rw [pur] at hp
    exact .tup h2.sq (dps_of ds vs hp h3)
  | .ob _ _ _, v, hp, _ => by rw [pur] at hp; cases hp
  | .dk _ _, v, hp, _ => by rw [pur] at hp; cases hp
  | .rf _, v, hp, _ => by rw [pur] at hp; cases hp
  | .ty _, v, hp, _ => by rw [pur] at hp; cases hp
theorem dps_of : ∀ (ds : List D) (vs : List V), purs ds = true → rDs K (Fx M H) ds vs → DpAll K H vs (pys ds)
  | [], vs, _, h => by cases (show vs = [] from h); rw [pys]; exact .nil
  | d :: ds, vs, hp, h => by
    obtain ⟨v, ws, rfl, h2, h3⟩ := h
    rw [purs, Bool.and_eq_true] at hp
    rw [pys]
    exact .cons (dp_of d v hp.1 h2) (dps_of ds ws hp.2 h3)
end
/-- a value that reads as a datum, frozen or a list of one's own -/
def DvOf (d : DV) (x : D) : Prop := d = .im x ∨ ∃ L ds, d = .mu L ds ∧ x = .lst ds
theorem DvOf.im {x : D} : DvOf (.im x) x := .inl rfl
theorem DvOf.mu {L : Addr} {ds : List D} : DvOf (.mu L ds) (.lst ds) := .inr ⟨L, ds, rfl, rfl⟩
theorem DvOf.dp {d : DV} {x : D} {v : V} (h : DvOf d x) (p : pur x = true) (r : rV K M H d v) : Dp K H v (py x) := by
  rcases h with rfl | ⟨L, ds, rfl, rfl⟩
  · exact dp_of x v p r
  · obtain ⟨rfl, vs, h2, h3⟩ := r
    rw [py]
    rw [pur] at p
    exact .lst (SqL.of h2) (dps_of ds vs p h3)
end
/-- == of two encoded values -/
def EqO {α : Type} [DecidableEq α] (en : α → D) : Prop := ∀ x y, PyData.eqv (py (en x)) (py (en y)) = decide (x = y)
theorem dec_and {p q : Prop} [Decidable p] [Decidable q] : (decide p && decide q) = decide (p ∧ q) := by
  by_cases h1 : p <;> by_cases h2 : q <;> simp [h1, h2]
theorem inj_int : EqO D.int := fun x y => by
  rw [py, py]
  show (x == y) = decide (x = y)
  by_cases h : x = y <;> simp [h]
theorem inj_str : EqO D.str := fun x y => by
  rw [py, py]
  show (x == y) = decide (x = y)
  by_cases h : x = y <;> simp [h]
theorem inj_bool : EqO D.bl := fun x y => by
  rw [py, py]
  show (x == y) = decide (x = y)
  by_cases h : x = y <;> simp [h]
theorem eqv_all {α : Type} [DecidableEq α] {en : α → D} (h : EqO en) : ∀ xs ys : List α, PyData.eqvAll (pys (xs.map en)) (pys (ys.map en)) = decide (xs = ys)
  | [], [] => by simp [pys, PyData.eqvAll]
  | [], y :: ys => by simp [pys, PyData.eqvAll]
  | x :: xs, [] => by simp [pys, PyData.eqvAll]
  | x :: xs, y :: ys => by
    rw [List.map_cons, List.map_cons, pys, pys]
    show (PyData.eqv (py (en x)) (py (en y)) && PyData.eqvAll (pys (xs.map en)) (pys (ys.map en))) = _
    rw [h x y, eqv_all h xs ys, dec_and]
    by_cases c : x = y ∧ xs = ys
    · rw [decide_eq_true c, decide_eq_true (by rw [c.1, c.2])]
    · rw [decide_eq_false c, decide_eq_false (fun e => c (by injection e with e1 e2; exact ⟨e1, e2⟩))]
theorem inj_L {α : Type} [DecidableEq α] {en : α → D} (h : EqO en) : EqO (eL en) := fun xs ys => by
  show PyData.eqv (py (.lst (xs.map en))) (py (.lst (ys.map en))) = _
  rw [py, py]
  exact eqv_all h xs ys
theorem inj_T {α : Type} [DecidableEq α] {en : α → D} (h : EqO en) : EqO (eT en) := fun xs ys => by
  show PyData.eqv (py (.tup (xs.map en))) (py (.tup (ys.map en))) = _
  rw [py, py]
  exact eqv_all h xs ys
theorem inj_P2 {α β : Type} [DecidableEq α] [DecidableEq β] {ea : α → D} {eb : β → D} (h1 : EqO ea) (h2 : EqO eb) : EqO (eP2 ea eb) := fun x y => by
  show PyData.eqv (py (.tup [ea x.1, eb x.2])) (py (.tup [ea y.1, eb y.2])) = _
  simp only [py, pys, PyData.eqv, PyData.eqvAll, Bool.and_true]
  rw [h1, h2, dec_and]
  by_cases c : x.1 = y.1 ∧ x.2 = y.2
  · rw [decide_eq_true c, decide_eq_true (Prod.ext c.1 c.2)]
  · rw [decide_eq_false c, decide_eq_false (fun e => c (by rw [e]; exact ⟨rfl, rfl⟩))]
theorem inj_P3 {α β γ : Type} [DecidableEq α] [DecidableEq β] [DecidableEq γ] {ea : α → D} {eb : β → D} {ec : γ → D} (h1 : EqO ea) (h2 : EqO eb) (h3 : EqO ec) : EqO (eP3 ea eb ec) := fun x y => by
  show PyData.eqv (py (.tup [ea x.1, eb x.2.1, ec x.2.2])) (py (.tup [ea y.1, eb y.2.1, ec y.2.2])) = _
  simp only [py, pys, PyData.eqv, PyData.eqvAll, Bool.and_true]
  rw [h1, h2, h3, dec_and, dec_and]
  by_cases c : x.1 = y.1 ∧ x.2.1 = y.2.1 ∧ x.2.2 = y.2.2
  · rw [decide_eq_true c, decide_eq_true (Prod.ext c.1 (Prod.ext c.2.1 c.2.2))]
  · rw [decide_eq_false c, decide_eq_false (fun e => c (by rw [e]; exact ⟨rfl, rfl, rfl⟩))]
theorem inj_H2 {α β : Type} [DecidableEq α] [DecidableEq β] {ea : α → D} {eb : β → D} (h1 : EqO ea) (h2 : EqO eb) : EqO (eH2 ea eb) := fun x y => by
  show PyData.eqv (py (.lst [ea x.1, eb x.2])) (py (.lst [ea y.1, eb y.2])) = _
  simp only [py, pys, PyData.eqv, PyData.eqvAll, Bool.and_true]
  rw [h1, h2, dec_and]
  by_cases c : x.1 = y.1 ∧ x.2 = y.2
  · rw [decide_eq_true c, decide_eq_true (Prod.ext c.1 c.2)]
  · rw [decide_eq_false c, decide_eq_false (fun e => c (by rw [e]; exact ⟨rfl, rfl⟩))]
theorem inj_H3 {α β γ : Type} [DecidableEq α] [DecidableEq β] [DecidableEq γ] {ea : α → D} {eb : β → D} {ec : γ → D} (h1 : EqO ea) (h2 : EqO eb) (h3 : EqO ec) : EqO (eH3 ea eb ec) := fun x y => by
  show PyData.eqv (py (.lst [ea x.1, eb x.2.1, ec x.2.2])) (py (.lst [ea y.1, eb y.2.1, ec y.2.2])) = _
  simp only [py, pys, PyData.eqv, PyData.eqvAll, Bool.and_true]
  rw [h1, h2, h3, dec_and, dec_and]
  by_cases c : x.1 = y.1 ∧ x.2.1 = y.2.1 ∧ x.2.2 = y.2.2
  · rw [decide_eq_true c, decide_eq_true (Prod.ext c.1 (Prod.ext c.2.1 c.2.2))]
  · rw [decide_eq_false c, decide_eq_false (fun e => c (by rw [e]; exact ⟨rfl, rfl, rfl⟩))]
section
variable {K : PySem.W.Frag} {α : Type} [DecidableEq α] {en : α → D} {d e : DV} {x y : α}
theorem od_eqD (i : EqO en) (h1 : Shp (en x)) (h2 : Shp (en y)) (hd : DvOf d (en x)) (he : DvOf e (en y)) : OpD K (rEqD K) d e (.im (.bl (decide (x = y)))) := fun M H w u v hu hv Q k =>
  ⟨_, _, hd.dp h1.1 hu, he.dp h2.1 hv, h1.shaped, h2.shaped, by rw [i x y]; exact k _ H w (Same.refl _) rfl⟩
theorem od_neD (i : EqO en) (h1 : Shp (en x)) (h2 : Shp (en y)) (hd : DvOf d (en x)) (he : DvOf e (en y)) : OpD K (rNeD K) d e (.im (.bl (!decide (x = y)))) := fun M H w u v hu hv Q k =>
  ⟨_, _, hd.dp h1.1 hu, he.dp h2.1 hv, h1.shaped, h2.shaped, by rw [i x y]; exact k _ H w (Same.refl _) rfl⟩
theorem any_eqv (i : EqO en) (x : α) : ∀ xs : List α, ((pys (xs.map en)).any fun z => PyData.eqv z (py (en x))) = decide (x ∈ xs)
  | [] => by simp [pys]
  | y :: xs => by
    rw [List.map_cons, pys, List.any_cons, i y x, any_eqv i x xs]
    by_cases c : y = x
    · rw [decide_eq_true c, Bool.true_or, decide_eq_true (show x ∈ y :: xs by rw [c]; exact List.mem_cons_self ..)]
    · rw [decide_eq_false c, Bool.false_or]
      by_cases c2 : x ∈ xs
      · rw [decide_eq_true c2, decide_eq_true (List.mem_cons_of_mem _ c2)]
      · rw [decide_eq_false c2, decide_eq_false (fun z => by rcases List.mem_cons.mp z with z | z; exact c z.symm; exact c2 z)]
theorem od_inD {xs : List α} (i : EqO en) (h1 : Shp (en x)) (h2 : Shp (eL en xs)) (hl : LsOf e (xs.map en)) : OpD K (rInD K) (.im (en x)) e (.im (.bl (decide (x ∈ xs)))) := fun M H w u v hu hv Q k => by
  have hd : DvOf e (eL en xs) := by
    rcases hl with rfl | ⟨L, rfl⟩
    · exact .im
    · exact .mu
  have h3 := hd.dp h2.1 hv
  have s2 := h2.shaped
  have e1 : py (eL en xs) = .list (pys (xs.map en)) := by show py (.lst (xs.map en)) = _; rw [py]
  rw [e1] at h3 s2
  exact ⟨_, _, dp_of (M := M) _ _ h1.1 hu, h3, h1.shaped, s2, by rw [any_eqv i x xs]; exact k _ H w (Same.refl _) rfl⟩
theorem od_ninD {xs : List α} (i : EqO en) (h1 : Shp (en x)) (h2 : Shp (eL en xs)) (hl : LsOf e (xs.map en)) : OpD K (rNotInD K) (.im (en x)) e (.im (.bl (!decide (x ∈ xs)))) := fun M H w u v hu hv Q k => by
  have hd : DvOf e (eL en xs) := by
    rcases hl with rfl | ⟨L, rfl⟩
    · exact .im
    · exact .mu
  have h3 := hd.dp h2.1 hv
  have s2 := h2.shaped
  have e1 : py (eL en xs) = .list (pys (xs.map en)) := by show py (.lst (xs.map en)) = _; rw [py]
  rw [e1] at h3 s2
  exact ⟨_, _, dp_of (M := M) _ _ h1.1 hu, h3, h1.shaped, s2, by rw [any_eqv i x xs]; exact k _ H w (Same.refl _) rfl⟩
end
/-! shapes -/
theorem Shp.list {α : Type} {en : α → D} {xs : List α} (h : ∀ x ∈ xs, pur (en x) = true ∧ dep (en x) ≤ 59) : Shp (eL en xs) := by
  constructor
  · show pur (.lst (xs.map en)) = true
    rw [pur, purs_all, List.all_map, List.all_eq_true]
    exact fun x hx => (h x hx).1
  · show dep (.lst (xs.map en)) ≤ 60
    rw [dep]
    have := deps_le (ds := xs.map en) (n := 59) fun d hd => by
      obtain ⟨x, hx, rfl⟩ := List.mem_map.mp hd
      exact (h x hx).2
    omega
theorem Shp.tuple {α : Type} {en : α → D} {xs : List α} (h : ∀ x ∈ xs, pur (en x) = true ∧ dep (en x) ≤ 59) : Shp (eT en xs) := by
  constructor
  · show pur (.tup (xs.map en)) = true
    rw [pur, purs_all, List.all_map, List.all_eq_true]
    exact fun x hx => (h x hx).1
  · show dep (.tup (xs.map en)) ≤ 60
    rw [dep]
    have := deps_le (ds := xs.map en) (n := 59) fun d hd => by
      obtain ⟨x, hx, rfl⟩ := List.mem_map.mp hd
      exact (h x hx).2
    omega
end Lf

set_option Elab.async false
set_option linter.all false
set_option maxRecDepth 100000
set_option maxHeartbeats 4000000
/-! Lists that a call gives anew; `is True`. -/
namespace Lf
open PySem PySem.Spec PyProof.Rows L2
section
variable {α ρ : Type}
/-- a function of data whose list is new -/
def spFN (K : PySem.W.Frag) (ens : α → List D) (er : ρ → D) (pre : α → Prop) (F : α → List ρ) : Sp := fun vs H Q _ => ∃ (M : Addr → Prop) (x : α), Wd M H ∧ rDs K (Fx M H) (ens x) vs ∧ pre x ∧
  ∀ p H3 ws, Wd M H3 → Same H H3 → H p = none → H3 p = some (.lst ws) → rDs K (Fx (adM M p) H3) ((F x).map er) ws → Q (.ref p) H3
theorem spFN_of {K : PySem.W.Frag} {ens : α → List D} {er : ρ → D} {pre : α → Prop} {F : α → List ρ} {vs : List V} {H : Hp} {Q : VK} {E : XK} (h : spF K ens (eL er) pre F vs H Q E) : spFN K ens er pre F vs H Q E := by
  obtain ⟨M, x, w, hx, hp, k⟩ := h
  refine ⟨M, x, w, hx, hp, fun p H3 ws w3 s3 np hp3 hv => k _ H3 w3 s3 ?_⟩
  exact ⟨p, ws, rfl, ⟨hp3, fun m => w p m np⟩, rDs.mono (fun q o z => ⟨z.1, fun y => z.2 (.inl y)⟩) _ _ hv⟩
end
def NwD (K : PySem.W.Frag) (r : List V → Hp → VK → Prop) (ds : List DV) (es : List D) : Prop := ∀ M H, Wd M H → ∀ xs, rVs K M H ds xs → ∀ Q : VK, (∀ p H3 ws, Wd M H3 → Same H H3 → H p = none → H3 p = some (.lst ws) → rDs K (Fx (adM M p) H3) es ws → Q (.ref p) H3) → r xs H Q
theorem cd_sortTI_new {K : PySem.W.Frag} {d : DV} {nss : List (List Int)} (hd : LsOf d (nss.map (eT D.int))) (h0 : ∀ n ∈ nss, n ≠ []) : ∀ M H, Wd M H → ∀ xs, rVs K M H [d] xs → ∀ Q : VK, (∀ p H3 ws, Same H H3 → H p = none → H3 p = some (.lst ws) → rDs K (Fx M H) ((sortT nss).map (eT D.int)) ws → Q (.ref p) H3) → rSortedTI K xs H Q := fun M H w xs hx Q k => by
  cases hx with
  | cons h1 h2 =>
    cases h2
    obtain ⟨a, vs, rfl, e2, e3⟩ := hd.get h1
    have tup : ∀ (i : Nat) (v : V), vs[i]? = some v → ∃ ns, nss[i]? = some ns ∧ rD K (Fx M H) (eT D.int ns) v ∧ ∃ t, v = V.ref t ∧ SqT K H t (ns.map V.int) := fun i v hi => by
      obtain ⟨dd, hdd, hr⟩ := e3.get hi
      rw [List.getElem?_map] at hdd
      obtain ⟨ns, hns, rfl⟩ := Option.map_eq_some_iff.mp hdd
      obtain ⟨t, ws, rfl, h3, h4⟩ := id hr
      cases h4.ints
      exact ⟨ns, hns, hr, t, rfl, h3.sq⟩
    refine ⟨a, vs, rfl, SqL.of e2, fun v hv => ?_, fun kf hk ys p H' hs hb np s' hp => ?_⟩
    · obtain ⟨i, hi⟩ := List.mem_iff_getElem?.mp hv
      obtain ⟨ns, hns, _, t, e, hq⟩ := tup i v hi
      exact ⟨t, ns, e, hq, h0 ns (List.mem_of_getElem? hns)⟩
    · have ek : vs.map kf = nss := by
        refine List.ext_getElem? fun i => ?_
        rw [List.getElem?_map]
        cases e : vs[i]? with
        | none =>
          have := List.getElem?_eq_none_iff.mp e
          rw [e3.len, List.length_map] at this
          exact (List.getElem?_eq_none_iff.mpr this).symm
        | some v =>
          obtain ⟨ns, hns, _, t, rfl, hq⟩ := tup i v e
          rw [hns]
          show some (kf (.ref t)) = some ns
          rw [hk t ns hq]
      have es : ys.map kf = sortT nss := by
        refine sortT_uniq (List.pairwise_map.mpr (hs.imp fun h => h)) ?_
        rw [← ek]
        exact hb.perm.map kf
      refine k p H' ys s' np hp ?_
      rw [← es]
      have all : ∀ y ∈ ys, rD K (Fx M H) (eT D.int (kf y)) y := fun y hy => by
        have hv := hb.perm.mem_iff.mp hy
        obtain ⟨i, hi⟩ := List.mem_iff_getElem?.mp hv
        obtain ⟨ns, hns, hr, t, rfl, hq⟩ := tup i y hi
        rw [hk t ns hq]
        exact hr
      clear hs hb hp es
      induction ys with
      | nil => rfl
      | cons y ys ih => exact ⟨y, ys, rfl, all y (List.mem_cons_self ..), ih fun z hz => all z (List.mem_cons_of_mem _ hz)⟩
section
variable {α ρ : Type} {K : PySem.W.Frag} {M : Addr → Prop} {σ : L2.St} {H : Hp} {ta : TE} {tA : TA} {ds : List DV} {es : List D} {Q : VK}
theorem nwd_fn {ens : α → List D} {er : ρ → D} {pre : α → Prop} {F : α → List ρ} {E : XK} (x : α) (hp : pre x) (hd : ds = (ens x).map .im) : NwD K (fun vs H Q => spFN K ens er pre F vs H Q E) ds ((F x).map er) := fun M H w xs hx Q k => by
  subst hd
  exact ⟨M, x, w, hx.ims, hp, k⟩
theorem go_methN {C : Addr} {ns : List Str} {xs : List D} {m : Str} {sp : Sp} {E : XK} (he : EV K M σ H ta (.im (.ob C ns xs))) (hm : m ∉ ns) (ha : EVA K M σ H tA ds) (ho : NwD K (fun vs H Q => sp vs H Q E) (.im (.ob C ns xs) :: ds) es) (w : Wd M H)
    (k : ∀ p H2 H3, Wd M H2 → Same H H2 → H2 p = none → Same H2 H3 → ∀ ws, H3 p = some (.lst ws) → rDs K (Fx (adM M p) H3) es ws → Q (.ref p) H3) : tMeth C m sp [] E ta tA σ H Q :=
  he M H w Ex.refl _ fun v H2 w2 s2 hv => by
    obtain ⟨a, dx, fs, rfl, h2, h3, h4⟩ := id hv
    refine ⟨a, dx, fs, rfl, h2.1, look_none h3 hm, ha M H2 w2 (Ex.same s2) _ fun vs H3 w3 s3 hvs => ?_⟩
    rw [List.append_nil]
    exact ho M H3 w3 _ (.cons (hv.same s3) hvs) Q fun p H4 ws w4 s4 np hp hw => k p H3 H4 w3 (s2.trans s3) np s4 ws hp hw
theorem adM_mx {M0 : Addr → Prop} {Ls : List Addr} {p : Addr} {vs : List V} (h : rDs K (Fx (adM (mxM M0 Ls) p) H) es vs) : rDs K (Fx (mxM M0 (p :: Ls)) H) es vs := rDs.mono (fun q o z => ⟨z.1, fun y => z.2 (by
  rcases y with y | y
  · exact .inl (.inl y)
  · rcases List.mem_cons.mp y with y | y
    · exact .inr y
    · exact .inl (.inr y))⟩) _ _ h
/-- what was a new list for the walk is a new list -/
theorem ad_new {H2 H3 : Hp} {p : Addr} {vs : List V} {M0 : Addr → Prop} {Ls : List Addr} (s : Same H2 H3) (np : H2 p = none) (h : rDs K (Fx (mxM M0 Ls) H2) es vs) : rDs K (Fx (adM M0 p) H3) es vs := rDs.mono (fun q o z => ⟨s q o z.1, fun y => by
  rcases y with y | y
  · exact z.2 (.inl y)
  · subst y; exact absurd z.1 (by rw [np]; exact fun e => nomatch e)⟩) _ _ h
theorem ad_own {p : Addr} {vs : List V} {M0 : Addr → Prop} {Ls : List Addr} (hL : p ∈ Ls) (h : rDs K (Fx (mxM M0 Ls) H) es vs) : rDs K (Fx (adM M0 p) H) es vs := rDs.mono (fun q o z => ⟨z.1, fun y => by
  rcases y with y | y
  · exact z.2 (.inl y)
  · exact z.2 (.inr (by rw [y]; exact hL))⟩) _ _ h
/-- sorted(..) is new -/
theorem evn_sortTI {d : DV} {nss : List (List Int)} (ha : EV K M σ H ta d) (hd : LsOf d (nss.map (eT D.int))) (h0 : ∀ n ∈ nss, n ≠ []) : EVN K M σ H (tCB (rSortedTI K) (tCons ta tNil)) ((sortT nss).map (eT D.int)) := fun H1 w s Q k =>
  ha M H1 w (Ex.same s) _ fun x H2 w2 s2 hx => by
    refine cd_sortTI_new hd h0 M H2 w2 [x] (.cons hx .nil) Q fun p H3 ws s3 np hp hv => k p H2 H3 w2 s2 np s3 ws hp hv
end
/-! is True, is False -/
def rIsBv : R2 := fun x y H Q => ∃ b : Bool, y = .bl b ∧ Q (.bl (decide (x = .bl b))) H
def isBD (d : D) (b : Bool) : Bool := match d with
  | .bl c => decide (c = b)
  | _ => false
theorem op_isBv {X : Cx} : OpR X (compareOp .Is) rIsBv := by
  intro pins s σ H x y v u Q I rx ry h
  obtain ⟨b, rfl, q⟩ := h
  cases (show u = Value.bool b from ry)
  cases x with
  | bl a =>
    cases (show v = Value.bool a from rx)
    by_cases e : a = b
    · subst e
      exact wpAny_is_self rfl ⟨.bl true, H, I, rfl, by simpa using q⟩
    · exact wpAny_is_other rfl (fun z => e (Value.bool.inj z)) ⟨.bl false, H, I, rfl, by simpa [e] using q⟩
  | non =>
    cases rx
    exact wpAny_is_other rfl (fun z => nomatch z) ⟨.bl false, H, I, rfl, by simpa using q⟩
  | int i =>
    obtain ⟨t, rfl⟩ := rx
    exact wpAny_is_other rfl (fun z => nomatch z) ⟨.bl false, H, I, rfl, by simpa using q⟩
  | str i =>
    obtain ⟨t, rfl⟩ := rx
    exact wpAny_is_other rfl (fun z => nomatch z) ⟨.bl false, H, I, rfl, by simpa using q⟩
  | byt i =>
    obtain ⟨t, rfl⟩ := rx
    exact wpAny_is_other rfl (fun z => nomatch z) ⟨.bl false, H, I, rfl, by simpa using q⟩
  | flt i =>
    obtain ⟨t, rfl⟩ := rx
    exact wpAny_is_other rfl (fun z => nomatch z) ⟨.bl false, H, I, rfl, by simpa using q⟩
  | ref i =>
    cases rx
    exact wpAny_is_other rfl (fun z => nomatch z) ⟨.bl false, H, I, rfl, by simpa using q⟩
  | ty i =>
    cases rx
    exact wpAny_is_other rfl (fun z => nomatch z) ⟨.bl false, H, I, rfl, by simpa using q⟩
theorem od_isB {K : PySem.W.Frag} {x : D} {b : Bool} : OpD K rIsBv (.im x) (.im (.bl b)) (.im (.bl (isBD x b))) := fun M H w u v hu hv Q k => by
  cases (show v = .bl b from hv)
  refine ⟨b, rfl, ?_⟩
  have e : decide (u = .bl b) = isBD x b := by
    have hu : rD K (Fx M H) x u := hu
    cases x with
    | bl c =>
      cases (show u = .bl c from hu)
      show decide (V.bl c = V.bl b) = decide (c = b)
      by_cases e : c = b
      · rw [decide_eq_true e, decide_eq_true (by rw [e])]
      · rw [decide_eq_false e, decide_eq_false (fun z => e (V.bl.inj z))]
    | non => cases (show u = .non from hu); rfl
    | int c => cases (show u = .int c from hu); exact decide_eq_false (fun z => nomatch z)
    | str c => cases (show u = .str c from hu); exact decide_eq_false (fun z => nomatch z)
    | lst ds => obtain ⟨a, vs, rfl, _⟩ := hu; exact decide_eq_false (fun z => nomatch z)
    | tup ds => obtain ⟨a, vs, rfl, _⟩ := hu; exact decide_eq_false (fun z => nomatch z)
    | ob C ns ds => obtain ⟨a, dx, fs, rfl, _⟩ := hu; exact decide_eq_false (fun z => nomatch z)
    | dk ks ds => obtain ⟨a, o, kvs, rfl, _⟩ := hu; exact decide_eq_false (fun z => nomatch z)
    | rf a => cases (show u = .ref a from hu); exact decide_eq_false (fun z => nomatch z)
    | ty n => cases (show u = .ty n from hu); exact decide_eq_false (fun z => nomatch z)
  rw [e]
  exact k _ H w (Same.refl _) rfl
end Lf
namespace Lf
open PySem PySem.Spec PyProof.Rows L2
theorem sm_none {H H2 : Hp} {p : Addr} (s : Same H H2) (n : H2 p = none) : H p = none := by
  cases e : H p with
  | none => rfl
  | some o => exact absurd (s p o e) (by rw [n]; exact fun z => nomatch z)
section
variable {K : PySem.W.Frag} {M : Addr → Prop} {σ : L2.St} {H H0 : Hp}
theorem cd_isiM {L : Addr} {ds : List D} {b : String} {r : Bool} (h : kitB "list" b = some r) : CaD K (rIsi K) [.mu L ds, .im (.ty b)] (.im (.bl r)) := fun M H w xs hx Q k => by
  cases hx with
  | cons h1 h2 =>
    cases h2 with
    | cons h2 h3 =>
      cases h3
      cases h2
      obtain ⟨e, vs, hp, _⟩ := h1
      subst e
      exact ⟨_, _, _, _, r, rfl, .ty _, .base (.lst hp), kit_ty h, k _ H w (Same.refl _) rfl⟩
theorem SqL.gd {M0 : Addr → Prop} {Ls Y : List Addr} {l : Addr} {xs : List V} (h : SqL K H0 l xs) (g : Gd M0 Ls Y H0 H) (e : Y = []) : SqL K H l xs := SqL.bu h (by rw [← e]; exact g.bu)
theorem ev_lenSc2 {i m : Nat} {l : Addr} {ns : List Int} (e : σ[i]? = some (some (V.ref l))) (hl : SqL K H l (ns.map V.int)) (em : ns.length = m) : EV K M σ H (tCB (rLenSq K) (tCons (tVar i) tNil)) (.im (.int (m : Int))) := by
  rw [← em]
  exact ev_lenSc e hl
end
end Lf
namespace Lf
open PySem PySem.Spec PyProof.Rows L2
def sc0 : Scope := { kind := .function, names := [], isGenerator := false, isCoroutine := false }
/-- a comprehension within another that reads none of its names -/
theorem blkOk_nf {N : List Str} {sc scope : Scope} {own : List (Str × Nat)} (h : blkC N sc0 scope own = true) : BlkOk N sc scope own := by
  refine blkOk_by ?_
  unfold blkC at h ⊢
  rw [Bool.and_eq_true] at h ⊢
  refine ⟨h.1, ?_⟩
  rw [List.all_eq_true] at h ⊢
  intro y hy
  have q := h.2 y hy
  revert q
  cases y.2 <;> intro q <;> first | exact q | exact (nomatch q)
end Lf

set_option Elab.async false
set_option linter.all false
set_option maxRecDepth 100000
set_option maxHeartbeats 4000000
/-! Comprehensions give new lists; extend, clear; isinstance of any data. -/
namespace Lf
open PySem PySem.Spec PyProof.Rows L2
section
variable {K : PySem.W.Frag} {M : Addr → Prop} {σ : L2.St} {H H' : Hp} {t ta tb tc : TE} {tt tu tt1 : TT} {tA : TA} {d e f : DV} {wi wi1 : TI} {G G1 : (Addr → Prop) → Hp → Hp → Prop} {es ds : List D}
/-- a new list -/
def EVM (K : PySem.W.Frag) (M : Addr → Prop) (σ : L2.St) (H : Hp) (t : TE) (ds : List D) : Prop := ∀ M1 H1, Wd M1 H1 → Ex M M1 H H1 → ∀ Q : VK, (∀ p H3 vs, Wd M1 H3 → Same H1 H3 → H1 p = none → H3 p = some (.lst vs) → rDs K (Fx (adM M1 p) H3) ds vs → Q (.ref p) H3) → t σ H1 Q
theorem EVM.go (h : EVM K M σ H t ds) (w : Wd M H) {Q : VK} (k : ∀ p H3 vs, Wd M H3 → Same H H3 → H p = none → H3 p = some (.lst vs) → rDs K (Fx (adM M p) H3) ds vs → Q (.ref p) H3) : t σ H Q := h M H w Ex.refl Q k
theorem EVM.go5 (h : EVM K M σ H t ds) (w : Wd M H) {Q : VK} (k : ∀ p H2 H3, Wd M H2 → Same H H2 → H2 p = none → Same H2 H3 → ∀ vs, H3 p = some (.lst vs) → rDs K (Fx (adM M p) H3) ds vs → Q (.ref p) H3) : t σ H Q := h.go w fun p H3 vs w3 s3 np hp hv => k p H H3 w (Same.refl _) np s3 vs hp hv
theorem evm_lcf {α : Type} {xs : List α} {en : α → D} {p : α → Bool} {f : α → D} {g : TG} {vs : List Nat} (hi : EVI K M σ H wi G (xs.map en)) (hG : ∀ {M M' : Addr → Prop} {H H' : Hp}, Ex M M' H H' → G M H H') (hg : GMono g) (hz : xs.length ≤ sizeLine)
    (hb : ∀ x ∈ xs, ∀ M' H' v, Wd M' H' → Ex M M' H H' → rD K (Fx M' H') (en x) v → g v (wipe σ vs) H' fun σ2 H2 => H2 = H' ∧ wipe σ2 vs = wipe σ vs ∧ EVT M' σ2 H' tt (p x) ∧ (p x = true → EV K M' σ2 H' t (.im (f x)))) :
    EVM K M σ H (tLc wi g tt t vs) ((xs.filter p).map f) := fun M1 H1 w s Q k => hi M1 H1 w s _ fun J H2 w2 s2 wk D nD => by
  have mD : ¬ M1 D := w2.free nD
  have sD : Same H2 (L2.upd H2 D (.lst [])) := Same.new nD
  refine lc_it wk (fun i H' => Wd (adM M1 D) H' ∧ Ex M1 (adM M1 D) H2 H' ∧ ∃ ws, H' D = some (.lst ws) ∧ rDs K (Fx (adM M1 D) H') (((xs.take i).filter p).map f) ws)
    ⟨(w2.same sD).add (by rw [upd_same]; exact fun z => nomatch z), Ex.add sD nD, [], upd_same, rfl⟩ (fun i H' _ z => hG z.2.1) ?_ ?_
  · rintro i x H3 H4 hi' ⟨w3, s3, ws, hD, hws⟩ ⟨s4, d, hd, hr⟩
    rw [List.getElem?_map] at hd
    obtain ⟨y, hy, rfl⟩ := Option.map_eq_some_iff.mp hd
    have hr := hr _ w3 s3.lx
    have w4 := w3.same s4
    have s24 := s3.sm s4
    have tk : xs.take (i + 1) = xs.take i ++ [y] := by rw [List.take_add_one, hy]; rfl
    have hl : ((xs.take i).filter p).length < sizeLine := by
      have h1 := List.length_filter_le p (xs.take i)
      have h2 := (List.getElem?_eq_some_iff.mp hy).1
      rw [List.length_take] at h1
      omega
    refine hg _ _ _ _ _ ?_ (hb y (List.mem_of_getElem? hy) _ H4 x w4 ((s.sm s2).trans s24) hr)
    rintro σ2 H5 ⟨rfl, hw, ht, he⟩
    refine ⟨hw, ht _ H5 w4 Ex.refl _ fun H6 w6 s6 => ?_⟩
    cases hp : p y with
    | true =>
      refine iteT ?_
      refine he hp _ H6 w6 (Ex.same s6) _ fun v H7 w7 s7 hv => ?_
      have s47 : Same H5 H7 := s6.trans s7
      have hD7 := s47 _ _ (s4 _ _ hD)
      have hws7 := (hws.same s4).same s47
      have lu : Lx (adM M1 D) (adM M1 D) H7 (L2.upd H7 D (.lst (ws ++ [v]))) := Lx.upd (.inr rfl)
      refine ⟨ws, hD7, by rw [hws.len, List.length_map]; exact hl, w7.upd, ⟨fun q o h => ?_, s24.u, s24.n⟩, ws ++ [v], upd_same, ?_⟩
      · rw [upd_ne (ne_of_none h nD)]
        exact s47 _ _ (s24.s _ _ h)
      · rw [tk, List.filter_append, List.map_append]
        have e1 : [y].filter p = [y] := by simp [hp]
        rw [e1]
        exact (rDs.mono lu _ _ hws7).append (rDs.one (rD.mono lu _ _ hv))
    | false =>
      refine iteF ?_
      refine ⟨w6, s24.sm s6, ws, s6 _ _ (s4 _ _ hD), ?_⟩
      rw [tk, List.filter_append, List.map_append]
      have e1 : [y].filter p = [] := by simp [hp]
      rw [e1, List.map_nil, List.append_nil]
      exact (hws.same s4).same s6
  · rintro H3 ⟨w3, s3, ws, hD, hws⟩
    rw [List.length_map, List.take_length] at hws
    exact k D H3 ws (fun q hq => w3 q (.inl hq)) (s2.trans s3.s) (sm_none s2 nD) hD hws
theorem evm_lcm {α : Type} {xs : List α} {en : α → D} {f : α → D} {g : TG} {vs : List Nat} (hi : EVI K M σ H wi G (xs.map en)) (hG : ∀ {M M' : Addr → Prop} {H H' : Hp}, Ex M M' H H' → G M H H') (hg : GMono g) (hz : xs.length ≤ sizeLine)
    (hb : ∀ x ∈ xs, ∀ M' H' v, Wd M' H' → Ex M M' H H' → rD K (Fx M' H') (en x) v → g v (wipe σ vs) H' fun σ2 H2 => H2 = H' ∧ wipe σ2 vs = wipe σ vs ∧ EV K M' σ2 H' t (.im (f x))) :
    EVM K M σ H (tLc wi g tYes t vs) (xs.map f) := by
  have := evm_lcf (tt := tYes) (p := fun _ => true) (f := f) hi hG hg hz fun x hx M' H' v w' s' hv => hg _ _ _ _ _ (fun σ2 H2 z => ⟨z.1, z.2.1, evt_yes, fun _ => z.2.2⟩) (hb x hx M' H' v w' s' hv)
  rw [List.filter_eq_self.mpr (fun _ _ => rfl)] at this
  exact this
theorem evm_lcmm {α β : Type} {xs : List α} {en : α → D} {fd : α → β} {en2 : β → D} {g : TG} {vs : List Nat} (hi : EVI K M σ H wi G (xs.map en)) (hG : ∀ {M M' : Addr → Prop} {H H' : Hp}, Ex M M' H H' → G M H H') (hg : GMono g) (hz : xs.length ≤ sizeLine)
    (hb : ∀ x ∈ xs, ∀ M' H' v, Wd M' H' → Ex M M' H H' → rD K (Fx M' H') (en x) v → g v (wipe σ vs) H' fun σ2 H2 => H2 = H' ∧ wipe σ2 vs = wipe σ vs ∧ EV K M' σ2 H' t (.im (en2 (fd x)))) :
    EVM K M σ H (tLc wi g tYes t vs) ((xs.map fd).map en2) := by
  have := evm_lcm (f := fun x => en2 (fd x)) hi hG hg hz hb
  rw [List.map_map]
  exact this
theorem evm_lcfm {α β : Type} {xs : List α} {en : α → D} {fd : α → β} {en2 : β → D} {p : α → Bool} {g : TG} {vs : List Nat} (hi : EVI K M σ H wi G (xs.map en)) (hG : ∀ {M M' : Addr → Prop} {H H' : Hp}, Ex M M' H H' → G M H H') (hg : GMono g) (hz : xs.length ≤ sizeLine)
    (hb : ∀ x ∈ xs, ∀ M' H' v, Wd M' H' → Ex M M' H H' → rD K (Fx M' H') (en x) v → g v (wipe σ vs) H' fun σ2 H2 => H2 = H' ∧ wipe σ2 vs = wipe σ vs ∧ EVT M' σ2 H' tt (p x) ∧ (p x = true → EV K M' σ2 H' t (.im (en2 (fd x))))) :
    EVM K M σ H (tLc wi g tt t vs) (((xs.filter p).map fd).map en2) := by
  have := evm_lcf (f := fun x => en2 (fd x)) hi hG hg hz hb
  rw [List.map_map]
  exact this
theorem evm_lcff {α : Type} {xs : List α} {en : α → D} {p : α → Bool} {g : TG} {vs : List Nat} (hi : EVI K M σ H wi G (xs.map en)) (hG : ∀ {M M' : Addr → Prop} {H H' : Hp}, Ex M M' H H' → G M H H') (hg : GMono g) (hz : xs.length ≤ sizeLine)
    (hb : ∀ x ∈ xs, ∀ M' H' v, Wd M' H' → Ex M M' H H' → rD K (Fx M' H') (en x) v → g v (wipe σ vs) H' fun σ2 H2 => H2 = H' ∧ wipe σ2 vs = wipe σ vs ∧ EVT M' σ2 H' tt (p x) ∧ (p x = true → EV K M' σ2 H' t (.im (en x)))) :
    EVM K M σ H (tLc wi g tt t vs) ((xs.filter p).map en) := evm_lcf (f := en) hi hG hg hz hb
theorem evm_lc2 {α β γ : Type} {xs : List α} {en : α → D} {ys : α → List β} {en1 : β → D} {p : α → Bool} {q : α → β → Bool} {fd : α → β → γ} {en2 : γ → D} {g g1 : TG} {vs vs1 : List Nat}
    (hi : EVI K M σ H wi G (xs.map en)) (hG : ∀ {M M' : Addr → Prop} {H H' : Hp}, Ex M M' H H' → G M H H') (hg : GMono g) (hg1 : GMono g1)
    (hz : (((xs.filter p).flatMap fun x => ((ys x).filter (q x)).map (fd x))).length ≤ sizeLine)
    (hb : ∀ x ∈ xs, ∀ M' H' v, Wd M' H' → Ex M M' H H' → rD K (Fx M' H') (en x) v → g v (wipe σ vs) H' fun σ2 H2 => H2 = H' ∧ wipe σ2 vs = wipe σ vs ∧ ∀ M2 H3, Wd M2 H3 → Ex M M2 H H3 → Lx M' M2 H' H3 →
      EVT M2 σ2 H3 tt (p x) ∧ (p x = true → EVI K M2 σ2 H3 wi1 GI ((ys x).map en1) ∧
      ∀ y ∈ ys x, ∀ u, rD K (Fx M2 H3) (en1 y) u → g1 u (wipe σ2 vs1) H3 fun σ3 H4 => H4 = H3 ∧ wipe σ3 vs1 = wipe σ2 vs1 ∧ EVT M2 σ3 H3 tt1 (q x y) ∧ (q x y = true → EV K M2 σ3 H3 t (.im (en2 (fd x y)))))) :
    EVM K M σ H (tLc2 wi g tt wi1 g1 tt1 t vs vs1) (((xs.filter p).flatMap fun x => ((ys x).filter (q x)).map (fd x)).map en2) := fun M1 H1 w s Q k => hi M1 H1 w s _ fun J H2 w2 s2 wk D nD => by
  have mD : ¬ M1 D := w2.free nD
  have sD : Same H2 (L2.upd H2 D (.lst [])) := Same.new nD
  obtain ⟨F, eF⟩ : ∃ F : α → List γ, F = fun x => ((ys x).filter (q x)).map (fd x) := ⟨_, rfl⟩
  rw [← eF] at hz
  have pre : ∀ i, (((xs.take i).filter p).flatMap F).length ≤ (((xs.filter p).flatMap F)).length := fun i => by
    have e : xs.filter p = (xs.take i).filter p ++ (xs.drop i).filter p := by rw [← List.filter_append, List.take_append_drop]
    rw [e, List.flatMap_append, List.length_append]
    omega
  refine lc2o_it wk (fun i H' => Wd (adM M1 D) H' ∧ Ex M1 (adM M1 D) H2 H' ∧ ∃ ws, H' D = some (.lst ws) ∧ rDs K (Fx (adM M1 D) H') ((((xs.take i).filter p).flatMap F).map en2) ws)
    ⟨(w2.same sD).add (by rw [upd_same]; exact fun z => nomatch z), Ex.add sD nD, [], upd_same, rfl⟩ (fun i H' _ z => hG z.2.1) ?_ ?_
  · rintro i x H3 H4 hi' ⟨w3, s3, ws, hD, hws⟩ ⟨s4, d, hd, hr⟩
    rw [List.getElem?_map] at hd
    obtain ⟨y, hy, rfl⟩ := Option.map_eq_some_iff.mp hd
    have hr := hr _ w3 s3.lx
    have w4 := w3.same s4
    have s24 := s3.sm s4
    have tk : xs.take (i + 1) = xs.take i ++ [y] := by rw [List.take_add_one, hy]; rfl
    have pi := pre (i + 1)
    refine hg _ _ _ _ _ ?_ (hb y (List.mem_of_getElem? hy) _ H4 x w4 ((s.sm s2).trans s24) hr)
    rintro σ2 H5 ⟨rfl, hw, hin⟩
    obtain ⟨ht, he⟩ := hin _ H5 w4 ((s.sm s2).trans s24) Lx.refl
    refine ⟨hw, ht _ H5 w4 Ex.refl _ fun H6 w6 s6 => ?_⟩
    cases hp : p y with
    | false =>
      refine iteF ?_
      refine ⟨w6, s24.sm s6, ws, s6 _ _ (s4 _ _ hD), ?_⟩
      rw [tk, List.filter_append]
      have e1 : [y].filter p = [] := by simp [hp]
      rw [e1, List.append_nil]
      exact (hws.same s4).same s6
    | true =>
      refine iteT ?_
      have e1 : (xs.take (i + 1)).filter p = (xs.take i).filter p ++ [y] := by rw [tk, List.filter_append]; simp [hp]
      have fl : ((xs.take (i + 1)).filter p).flatMap F = ((xs.take i).filter p).flatMap F ++ F y := by rw [e1, List.flatMap_append]; simp
      rw [fl] at pi ⊢
      obtain ⟨hi1, _⟩ := he hp
      refine hi1 _ H6 w6 (Ex.same s6) _ fun J1 H7 w7 s7 wk1 => ?_
      have s57 : Same H5 H7 := s6.trans s7
      refine lc2_it wk1 (fun j H' => Wd (adM M1 D) H' ∧ Ex M1 (adM M1 D) H2 H' ∧ Lx (adM M1 D) (adM M1 D) H5 H' ∧ Lx (adM M1 D) (adM M1 D) H7 H' ∧ ∃ ws, H' D = some (.lst ws) ∧ rDs K (Fx (adM M1 D) H') ((((xs.take i).filter p).flatMap F ++ (((ys y).take j).filter (q y)).map (fd y)).map en2) ws)
        ⟨w7, s24.sm s57, Lx.same s57, Lx.refl, ws, s57 _ _ (s4 _ _ hD), by simp only [List.take_zero, List.filter_nil, List.map_nil, List.append_nil]; exact (hws.same s4).same s57⟩ (fun j H' _ z => ⟨_, z.2.2.2.1⟩) ?_ ?_
      · rintro j u H8 H9 hj ⟨w8, s8, l8, k8, ws8, hD8, hws8⟩ ⟨s9, d, hd, hr9⟩
        rw [List.getElem?_map] at hd
        obtain ⟨b, hb', rfl⟩ := Option.map_eq_some_iff.mp hd
        have hr9 := hr9 _ w8 k8
        have w9 := w8.same s9
        have tk1 : (ys y).take (j + 1) = (ys y).take j ++ [b] := by rw [List.take_add_one, hb']; rfl
        obtain ⟨_, he9⟩ := hin _ H9 w9 ((s.sm s2).trans (s8.sm s9)) (l8.trans (Lx.same s9))
        refine hg1 _ _ _ _ _ ?_ ((he9 hp).2 b (List.mem_of_getElem? hb') u hr9)
        rintro σ3 H10 ⟨rfl, hw3, ht3, he3⟩
        refine ⟨hw3, ht3 _ H10 w9 Ex.refl _ fun H11 w11 s11 => ?_⟩
        cases hq : q y b with
        | false =>
          refine iteF ?_
          refine ⟨w11, (s8.sm s9).sm s11, (l8.trans (Lx.same s9)).trans (Lx.same s11), (k8.trans (Lx.same s9)).trans (Lx.same s11), ws8, s11 _ _ (s9 _ _ hD8), ?_⟩
          rw [tk1, List.filter_append]
          have e2 : [b].filter (q y) = [] := by simp [hq]
          rw [e2, List.append_nil]
          exact (hws8.same s9).same s11
        | true =>
          refine iteT ?_
          refine he3 hq _ H11 w11 (Ex.same s11) _ fun v H12 w12 s12 hv => ?_
          have s912 : Same H10 H12 := s11.trans s12
          have lu : Lx (adM M1 D) (adM M1 D) H12 (L2.upd H12 D (.lst (ws8 ++ [v]))) := Lx.upd (.inr rfl)
          have e2 : (((ys y).take (j + 1)).filter (q y)).map (fd y) = (((ys y).take j).filter (q y)).map (fd y) ++ [fd y b] := by
            rw [tk1, List.filter_append, List.map_append]
            simp [hq]
          have ln : (((xs.take i).filter p).flatMap F ++ (((ys y).take j).filter (q y)).map (fd y)).length < sizeLine := by
            have : (((ys y).take (j + 1)).filter (q y)).length ≤ ((ys y).filter (q y)).length := by
              have e : (ys y).filter (q y) = ((ys y).take (j + 1)).filter (q y) ++ ((ys y).drop (j + 1)).filter (q y) := by rw [← List.filter_append, List.take_append_drop]
              rw [e, List.length_append]
              omega
            have e3 := congrArg List.length e2
            rw [List.length_append, List.length_map, List.length_map] at e3
            have e4 : (F y).length = ((ys y).filter (q y)).length := by rw [eF]; simp
            rw [List.length_append, List.length_map]
            rw [List.length_append, e4] at pi
            simp only [List.length_cons, List.length_nil] at e3
            omega
          refine ⟨ws8, s912 _ _ (s9 _ _ hD8), by rw [hws8.len, List.length_map]; exact ln, w12.upd, ⟨fun r o h => ?_, s8.u, s8.n⟩, ((l8.trans (Lx.same s9)).trans (Lx.same s912)).trans lu, ((k8.trans (Lx.same s9)).trans (Lx.same s912)).trans lu, ws8 ++ [v], upd_same, ?_⟩
          · rw [upd_ne (ne_of_none h nD)]
            exact s912 _ _ (s9 _ _ (s8.s _ _ h))
          · rw [e2, ← List.append_assoc, List.map_append]
            exact (rDs.mono lu _ _ ((hws8.same s9).same s912)).append (rDs.one (rD.mono lu _ _ hv))
      · rintro H8 ⟨w8, s8, l8, k8, ws8, hD8, hws8⟩
        refine ⟨w8, s8, ws8, hD8, ?_⟩
        rw [List.length_map, List.take_length] at hws8
        rw [eF]
        rw [eF] at hws8
        exact hws8
  · rintro H3 ⟨w3, s3, ws, hD, hws⟩
    rw [List.length_map, List.take_length] at hws
    refine k D H3 ws (fun q hq => w3 q (.inl hq)) (s2.trans s3.s) (sm_none s2 nD) hD ?_
    rw [← eF]
    exact hws
theorem evm_lc2f {α β γ : Type} {xs : List α} {en : α → D} {ys : α → List β} {en1 : β → D} {q : α → β → Bool} {fd : α → β → γ} {en2 : γ → D} {g g1 : TG} {vs vs1 : List Nat}
    (hi : EVI K M σ H wi G (xs.map en)) (hG : ∀ {M M' : Addr → Prop} {H H' : Hp}, Ex M M' H H' → G M H H') (hg : GMono g) (hg1 : GMono g1)
    (hz : ((xs.flatMap fun x => ((ys x).filter (q x)).map (fd x))).length ≤ sizeLine)
    (hb : ∀ x ∈ xs, ∀ M' H' v, Wd M' H' → Ex M M' H H' → rD K (Fx M' H') (en x) v → g v (wipe σ vs) H' fun σ2 H2 => H2 = H' ∧ wipe σ2 vs = wipe σ vs ∧ ∀ M2 H3, Wd M2 H3 → Ex M M2 H H3 → Lx M' M2 H' H3 →
      EVI K M2 σ2 H3 wi1 GI ((ys x).map en1) ∧
      ∀ y ∈ ys x, ∀ u, rD K (Fx M2 H3) (en1 y) u → g1 u (wipe σ2 vs1) H3 fun σ3 H4 => H4 = H3 ∧ wipe σ3 vs1 = wipe σ2 vs1 ∧ EVT M2 σ3 H3 tt1 (q x y) ∧ (q x y = true → EV K M2 σ3 H3 t (.im (en2 (fd x y))))) :
    EVM K M σ H (tLc2 wi g tYes wi1 g1 tt1 t vs vs1) ((xs.flatMap fun x => ((ys x).filter (q x)).map (fd x)).map en2) := by
  have := evm_lc2 (p := fun _ => true) (q := q) (fd := fd) (en2 := en2) (ys := ys) (tt := tYes) (t := t) (tt1 := tt1) hi hG hg hg1 (by rw [filt_true]; exact hz) fun x hx M' H' v w' s' hv =>
    hg _ _ _ _ _ (fun σ2 H2 z => ⟨z.1, z.2.1, fun M2 H3 w3 s3 l3 => ⟨evt_yes, fun _ => z.2.2 M2 H3 w3 s3 l3⟩⟩) (hb x hx M' H' v w' s' hv)
  rw [filt_true] at this
  exact this
theorem evm_lc2m {α β γ : Type} {xs : List α} {en : α → D} {ys : α → List β} {en1 : β → D} {fd : α → β → γ} {en2 : γ → D} {g g1 : TG} {vs vs1 : List Nat}
    (hi : EVI K M σ H wi G (xs.map en)) (hG : ∀ {M M' : Addr → Prop} {H H' : Hp}, Ex M M' H H' → G M H H') (hg : GMono g) (hg1 : GMono g1)
    (hz : ((xs.flatMap fun x => (ys x).map (fd x))).length ≤ sizeLine)
    (hb : ∀ x ∈ xs, ∀ M' H' v, Wd M' H' → Ex M M' H H' → rD K (Fx M' H') (en x) v → g v (wipe σ vs) H' fun σ2 H2 => H2 = H' ∧ wipe σ2 vs = wipe σ vs ∧ ∀ M2 H3, Wd M2 H3 → Ex M M2 H H3 → Lx M' M2 H' H3 →
      EVI K M2 σ2 H3 wi1 GI ((ys x).map en1) ∧
      ∀ y ∈ ys x, ∀ u, rD K (Fx M2 H3) (en1 y) u → g1 u (wipe σ2 vs1) H3 fun σ3 H4 => H4 = H3 ∧ wipe σ3 vs1 = wipe σ2 vs1 ∧ EV K M2 σ3 H3 t (.im (en2 (fd x y)))) :
    EVM K M σ H (tLc2 wi g tYes wi1 g1 tYes t vs vs1) ((xs.flatMap fun x => (ys x).map (fd x)).map en2) := by
  have := evm_lc2f (q := fun _ _ => true) (fd := fd) (en2 := en2) (ys := ys) (t := t) (tt1 := tYes) hi hG hg hg1 (by simp only [filt_true]; exact hz) fun x hx M' H' v w' s' hv =>
    hg _ _ _ _ _ (fun σ2 H2 z => ⟨z.1, z.2.1, fun M2 H3 w3 s3 l3 => ⟨(z.2.2 M2 H3 w3 s3 l3).1, fun y hy u hu => hg1 _ _ _ _ _ (fun σ3 H4 z => ⟨z.1, z.2.1, evt_yes, fun _ => z.2.2⟩) ((z.2.2 M2 H3 w3 s3 l3).2 y hy u hu)⟩⟩) (hb x hx M' H' v w' s' hv)
  simp only [filt_true] at this
  exact this
/-- L.extend(xs), L.clear() -/
theorem x_extend {M0 : Addr → Prop} {Ls : List Addr} {L : Addr} {Q : VK} {x : V} {v : V} (h : rV K (mxM M0 Ls) H (.mu L ds) v) (hl : LsOf d es) (hx : rV K (mxM M0 Ls) H d x) (hL : L ∈ Ls) (hz : ds.length + es.length ≤ sizeLine)
    (k : ∀ H2, (∃ vs, H2 = L2.upd H L (.lst vs)) → rV K (mxM M0 Ls) H2 (.mu L (ds ++ es)) v → Q .non H2) : rExtend v [x] H Q := by
  obtain ⟨rfl, vs, h2, h3⟩ := h
  obtain ⟨b, ws, rfl, f2, f3⟩ := hl.get hx
  refine ⟨L, b, vs, ws, rfl, rfl, h2, f2, by rw [h3.len, f3.len]; exact hz, k _ ⟨_, rfl⟩ ⟨rfl, _, upd_same, ?_⟩⟩
  exact (rDs.mono (Gd.lx_upd hL) _ _ h3).append (rDs.mono (Gd.lx_upd hL) _ _ f3)
theorem x_bm0 {r : V → List V → Hp → VK → Prop} {Q : VK} (ha : EV K M σ H ta d) (hl : LsOf d ds) (w : Wd M H) (k : ∀ v H2, Wd M H2 → Same H H2 → rV K M H2 d v → r v [] H2 Q) : tBM0 K "list" r ta σ H Q := ha.go w fun v H2 w2 s2 hv => by
  obtain ⟨a, vs, rfl, h2, h3⟩ := hl.get hv
  exact ⟨.inl ⟨rfl, _, SqL.of h2⟩, k _ H2 w2 s2 hv⟩
theorem x_clear {M0 : Addr → Prop} {Ls : List Addr} {L : Addr} {Q : VK} {v : V} (h : rV K (mxM M0 Ls) H (.mu L ds) v)
    (k : ∀ H2, (∃ vs, H2 = L2.upd H L (.lst vs)) → rV K (mxM M0 Ls) H2 (.mu L []) v → Q .non H2) : rClear v [] H Q := by
  obtain ⟨rfl, vs, h2, h3⟩ := h
  exact ⟨L, vs, rfl, rfl, h2, k _ ⟨_, rfl⟩ ⟨rfl, _, upd_same, rfl⟩⟩
/-- any data -/
def eA (d : D) : D := d
def isiD (d : D) (b : String) : Bool := match tyD d with
  | some a => (kitB a b).getD false
  | none => false
def isiC (d : D) (b : String) : Prop := ∃ a, tyD d = some a ∧ (kitB a b).isSome = true
theorem cd_isiD {x : D} {b : String} (h : isiC x b) : CaD K (rIsi K) [.im (eA x), .im (.ty b)] (.im (.bl (isiD x b))) := by
  obtain ⟨a, e, z⟩ := h
  obtain ⟨r, er⟩ := Option.isSome_iff_exists.mp z
  have : isiD x b = r := by unfold isiD; rw [e]; show (kitB a b).getD false = r; rw [er]; rfl
  rw [this]
  exact cd_isi e er
/-- own lists in a list -/
theorem ev_ixN {i : Int} {q : Addr} {qs : List Addr} (ha : EV K M σ H ta (.im (.lst (qs.map D.rf)))) (hi : L2.atI (qs.map V.ref) i = some (.ref q)) (hq : rV K M H (.mu q ds) (.ref q)) : EV K M σ H (tOp (rIxL K) ta (tC (.int i))) (.mu q ds) := fun M' H1 w s Q k =>
  ha M' H1 w s _ fun x H2 w2 s2 hx => by
    obtain ⟨a, vs, rfl, h2, h3⟩ := hx
    have e : vs = qs.map V.ref := by
      clear h2 hi ha
      induction qs generalizing vs with
      | nil => exact h3
      | cons z zs ih =>
        obtain ⟨v, ws, rfl, e2, e3⟩ := h3
        rw [ih ws e3, List.map_cons, show v = .ref z from e2]
    subst e
    refine ⟨a, _, i, .ref q, rfl, rfl, SqL.of h2.1, hi, k _ H2 w2 s2 ?_⟩
    exact rV.same s2 (rV.ex s hq)
theorem rDs.of_ints {R : RH} : ∀ xs : List Int, rDs K R (xs.map D.int) (xs.map V.int)
  | [] => rfl
  | x :: xs => ⟨_, _, rfl, rfl, rDs.of_ints xs⟩
end
section
variable {M0 : Addr → Prop} {Ls Y : List Addr} {H0 H H1 H3 : Hp} {K : PySem.W.Frag} {p r q0 q1 q2 : Addr}
theorem ad_mx (q : Addr) (o : HO) (z : Fx (adM (mxM M0 Ls) p) H3 q o) : Fx (adM M0 p) H3 q o := ⟨z.1, fun y => z.2 (y.elim (fun y => .inl (.inl y)) .inr)⟩
theorem Gd.ex_new3 (s : Same H H1) (n0 : H q0 = none) (n1 : H q1 = none) (n2 : H q2 = none) : Ex (mxM M0 Ls) (mxM M0 (q0 :: q1 :: q2 :: Ls)) H H1 := ⟨s, fun q h => h.elim .inl fun h => .inr (List.mem_cons_of_mem _ (List.mem_cons_of_mem _ (List.mem_cons_of_mem _ h))), fun q h => by
  rcases h with h | h
  · exact .inl (.inl h)
  · simp only [List.mem_cons] at h
    rcases h with rfl | rfl | rfl | h
    · exact .inr n0
    · exact .inr n1
    · exact .inr n2
    · exact .inl (.inr h)⟩
theorem Gd.free0 (g : Gd M0 Ls Y H0 H) {q : Addr} (n : H q = none) : H0 q = none := by
  cases e : H0 q with
  | none => rfl
  | some u =>
    by_cases hy : q ∈ Y
    · exact absurd n (g.wd q (.inl (g.ys q hy)))
    · rw [g.bu q u e hy] at n; cases n
theorem Gd.new3 {o0 o1 o2 : HO} (g : Gd M0 Ls Y H0 H) (s : Same H H1) (n0 : H q0 = none) (n1 : H q1 = none) (n2 : H q2 = none) (nd : [q0, q1, q2, r].Nodup) (h0 : H1 q0 = some o0) (h1 : H1 q1 = some o1) (h2 : H1 q2 = some o2) : Gd M0 (q0 :: q1 :: q2 :: Ls) Y H0 H1 := by
  have a0 : ∀ {q : Addr}, H q = none → q ∉ Ls := fun n m => g.wd _ (.inr m) n
  refine ⟨fun q hq => ?_, g.bu.trans (Bu.same s), fun q hq => ?_, ?_, g.w0, g.ys⟩
  · rcases hq with hq | hq
    · exact (g.wd.same s) q (.inl hq)
    · simp only [List.mem_cons] at hq
      rcases hq with rfl | rfl | rfl | hq
      · rw [h0]; exact fun z => nomatch z
      · rw [h1]; exact fun z => nomatch z
      · rw [h2]; exact fun z => nomatch z
      · exact (g.wd.same s) q (.inr hq)
  · simp only [List.mem_cons] at hq
    rcases hq with rfl | rfl | rfl | hq
    · exact g.free0 n0
    · exact g.free0 n1
    · exact g.free0 n2
    · exact g.nw q hq
  · simp only [List.nodup_cons, List.mem_cons, List.not_mem_nil, or_false, not_or] at nd ⊢
    exact ⟨⟨nd.1.1, nd.1.2.1, a0 n0⟩, ⟨nd.2.1.1, a0 n1⟩, a0 n2, g.nd⟩
theorem n3_at (g : Gd M0 Ls Y H0 H) (nr : H r = none) (nd : [q0, q1, q2, r].Nodup) (hr : H1 r = some (.lst [.ref q0, .ref q1, .ref q2])) : rV K (mxM M0 (q0 :: q1 :: q2 :: Ls)) H1 (.im (.lst [D.rf q0, D.rf q1, D.rf q2])) (.ref r) := by
  refine ⟨r, _, rfl, ⟨hr, fun m => ?_⟩, _, _, rfl, rfl, _, _, rfl, rfl, _, _, rfl, rfl, rfl⟩
  simp only [List.nodup_cons, List.mem_cons, List.not_mem_nil, or_false, not_or] at nd
  rcases m with m | m
  · exact g.wd r (.inl m) nr
  · simp only [List.mem_cons] at m
    rcases m with rfl | rfl | rfl | m
    · exact nd.1.2.2 rfl
    · exact nd.2.1.2 rfl
    · exact nd.2.2.1 rfl
    · exact g.wd r (.inr m) nr
theorem n3_low {M : Addr → Prop} {Ls2 : List Addr} {v : V} {d0 d1 d2 : List D} (hr : rV K M H (.im (.lst [D.rf q0, D.rf q1, D.rf q2])) v) (n0 : ∀ q ∈ [q0, q1, q2], ¬ M0 q) (nl : ∀ q ∈ [q0, q1, q2], q ∉ Ls2) (h0 : rV K M H (.mu q0 d0) (.ref q0)) (h1 : rV K M H (.mu q1 d1) (.ref q1)) (h2 : rV K M H (.mu q2 d2) (.ref q2)) (l : Lx M (mxM M0 Ls2) H H) : rV K (mxM M0 Ls2) H (.im (.lst [.lst d0, .lst d1, .lst d2])) v := by
  obtain ⟨a, vs, rfl, h, v0, _, rfl, rfl, v1, _, rfl, rfl, v2, _, rfl, rfl, rfl⟩ := hr
  obtain ⟨_, w0, e0, f0⟩ := h0
  obtain ⟨_, w1, e1, f1⟩ := h1
  obtain ⟨_, w2, e2, f2⟩ := h2
  have no : ∀ q ∈ [q0, q1, q2], ¬ mxM M0 Ls2 q := fun q hq m => m.elim (n0 q hq) (nl q hq)
  exact ⟨a, _, rfl, l _ _ h, _, _, rfl, ⟨_, _, rfl, ⟨e0, no _ (by simp)⟩, rDs.mono l _ _ f0⟩, _, _, rfl, ⟨_, _, rfl, ⟨e1, no _ (by simp)⟩, rDs.mono l _ _ f1⟩, _, _, rfl, ⟨_, _, rfl, ⟨e2, no _ (by simp)⟩, rDs.mono l _ _ f2⟩, rfl⟩
theorem n3_end {c0 c2 : List Str} {c1 : List Int} {H9 : Hp} (g : Gd M0 [q2, q1, q0] Y H0 H) (eY : Y = []) (h0 : rV K (mxM M0 [q2, q1, q0]) H (.mu q0 (c0.map D.str)) (.ref q0)) (h1 : rV K (mxM M0 [q2, q1, q0]) H (.mu q1 (c1.map D.int)) (.ref q1)) (h2 : rV K (mxM M0 [q2, q1, q0]) H (.mu q2 (c2.map D.str)) (.ref q2)) (nr : H r = none) (s : Same H H9) :
    Wd M0 H9 ∧ Same H0 H9 ∧ H0 r = none ∧ H0 q0 = none ∧ H0 q1 = none ∧ H0 q2 = none ∧ [q0, q1, q2, r].Nodup ∧ H9 q0 = some (.lst (c0.map V.str)) ∧ H9 q1 = some (.lst (c1.map V.int)) ∧ H9 q2 = some (.lst (c2.map V.str)) := by
  obtain ⟨_, w0, e0, f0⟩ := h0
  obtain ⟨_, w1, e1, f1⟩ := h1
  obtain ⟨_, w2, e2, f2⟩ := h2
  cases f0.strs
  cases f1.ints
  cases f2.strs
  have nd := g.nd
  have ne : ∀ {q : Addr} {o : HO}, H q = some o → q ≠ r := fun h e => by rw [e, nr] at h; cases h
  refine ⟨g.w_end.same s, (Bu.nil g.bu eY).trans s, g.free0 nr, g.nw _ (by simp), g.nw _ (by simp), g.nw _ (by simp), ?_, s _ _ e0, s _ _ e1, s _ _ e2⟩
  simp only [List.nodup_cons, List.mem_cons, List.not_mem_nil, or_false, not_or] at nd ⊢
  exact ⟨⟨fun h => nd.2.1 h.symm, fun h => nd.1.2 h.symm, ne e0⟩, ⟨fun h => nd.1.1 h.symm, ne e1⟩, ne e2, not_false, List.nodup_nil⟩
theorem raw0 {P : Program} {w : World} {mg : Str → Option Value} {base : Heap} {CX : CXT} {k : Nat} {g : Addr} {sp : Sp} (h : FnR P w K mg base CX k g (fun vs H Q E => sp (vs ++ []) H Q E)) : FnR P w K mg base CX k g sp := by
  have e : (fun vs H Q E => sp (vs ++ []) H Q E) = sp := by
    funext vs H Q E
    rw [List.append_nil]
  rw [e] at h
  exact h
end
end Lf

set_option Elab.async false
set_option linter.all false
set_option maxRecDepth 100000
set_option maxHeartbeats 4000000
/-! Any data; own == and != by data; walks of values; tests with effects. -/
namespace Lf
open PySem PySem.Spec PyProof.Rows L2
def isS : D → Bool
  | .str _ => true
  | _ => false
def strOf : D → Str
  | .str s => s
  | _ => Str.ofString ""
section
variable {K : PySem.W.Frag} {M : Addr → Prop} {σ : L2.St} {H H' : Hp} {t ta tb te : TE} {tt tu : TT} {d e f : DV} {R : It → Hp → Prop} {es ds : List D}
theorem ev_getS {x : D} (h : EV K M σ H t (.im (eA x))) (c : isS x = true) : EV K M σ H t (.im (.str (strOf x))) := by
  cases x with
  | str s => exact h
  | _ => exact absurd c (fun z => nomatch (show false = true from z))
def rStrS : List V → Hp → VK → Prop := fun xs H Q => ∃ a, xs = [.str a] ∧ Q (.str a) H
theorem cd_strS {x : Str} : CaD K rStrS [.im (.str x)] (.im (.str x)) := fun M H w xs hx Q k => by
  cases hx with
  | cons h1 h2 =>
    cases h2
    cases (show _ = V.str x from h1)
    exact ⟨x, rfl, k _ H w (Same.refl _) rfl⟩
/-! own == and != -/
def TyQ (K : PySem.W.Frag) (C : Addr) (y : D) : Prop := ∀ M H v, rD K (Fx M H) y v → ∃ t, TyX K H v t ∧ PySem.W.notFirst K C t = true
theorem tyq_of {C : Addr} {y : D} (e : (tyD y).isSome = true) : TyQ K C y := fun M H v h => by
  obtain ⟨a, ea⟩ := Option.isSome_iff_exists.mp e
  refine ⟨_, tyX_of h ea, nf_ty ?_⟩
  cases y with
  | non => cases (Option.some.inj ea); exact mro_none
  | bl b => cases (Option.some.inj ea); exact mro_bool
  | int b => cases (Option.some.inj ea); exact mro_int
  | str b => cases (Option.some.inj ea); exact mro_str
  | lst b => cases (Option.some.inj ea); exact mro_list
  | tup b => cases (Option.some.inj ea); exact mro_tuple
  | ob _ _ _ => exact absurd ea (by unfold tyD; exact fun z => nomatch z)
  | dk _ _ => exact absurd ea (by unfold tyD; exact fun z => nomatch z)
  | rf _ => exact absurd ea (by unfold tyD; exact fun z => nomatch z)
  | ty _ => exact absurd ea (by unfold tyD; exact fun z => nomatch z)
theorem tyq_ob {C : Addr} {ns : List Str} {xs : List D} (ct : ClsT K C) : TyQ K C (.ob C ns xs) := fun M H v h => by
  obtain ⟨a, dx, fs, rfl, h2, _⟩ := h
  exact ⟨_, ct.ty h2.1, nf_own⟩
theorem od_ownEq {C : Addr} {ns : List Str} {xs : List D} {sp : Sp} {E : XK} {y : D} {b : Bool} (ho : CaD K (fun vs H Q => sp vs H Q E) [.im (.ob C ns xs), .im y] (.im (.bl b))) (ht : TyQ K C y) : OpD K (rOwnEq K C sp E) (.im (.ob C ns xs)) (.im y) (.im (.bl b)) := fun M H w u v hu hv Q k => by
  obtain ⟨a, dx, fs, rfl, h2, h3, h4⟩ := id hu
  obtain ⟨t, t1, t2⟩ := ht M H v hv
  exact ⟨a, dx, fs, t, rfl, h2.1, t1, t2, ho M H w _ (.cons hu (.cons hv .nil)) _ k⟩
theorem od_ownNe {C : Addr} {ns : List Str} {xs : List D} {sp : Sp} {E : XK} {y : D} {b : Bool} (ho : CaD K (fun vs H Q => sp vs H Q E) [.im (.ob C ns xs), .im y] (.im (.bl b))) (ht : TyQ K C y) : OpD K (rOwnNe K C sp E) (.im (.ob C ns xs)) (.im y) (.im (.bl (!b))) := fun M H w u v hu hv Q k => by
  obtain ⟨a, dx, fs, rfl, h2, h3, h4⟩ := id hu
  obtain ⟨t, t1, t2⟩ := ht M H v hv
  exact ⟨a, dx, fs, t, rfl, h2.1, t1, t2, ho M H w _ (.cons hu (.cons hv .nil)) _ fun z H2 w2 s2 hz => ⟨b, hz, k _ H2 w2 s2 rfl⟩⟩
/-! walks of a value -/
def IL (K : PySem.W.Frag) (R : It → Hp → Prop) (x : V) (H1 : Hp) : Prop := ∃ a, x = .ref a ∧ (∃ xs, SqL K H1 a xs) ∧ R (Itl K a) H1
theorem x_ilist (h : te σ H fun v H1 => IL K R v H1) : iList K te σ H R := h
theorem il_go {α : Type} {en : α → D} {xs : List α} {v : V} (hv : rV K M H (.im (.lst (xs.map en))) v) (k : ∀ J, Walk J xs.length (GI M H) (YD K M H (xs.map en)) → R J H) : IL K R v H := by
  obtain ⟨a, vs, rfl, h2, h3⟩ := hv
  refine ⟨a, rfl, ⟨_, SqL.of h2.1⟩, k _ ?_⟩
  rw [show xs.length = vs.length by rw [h3.len, List.length_map]]
  refine walk_list.mono (fun H' g => SqL.of (g.choose_spec _ _ h2).1) fun i H' x H'' hi g y => ?_
  obtain ⟨e1, e2⟩ := y
  obtain ⟨d, hd, hr⟩ := h3.get e2
  rw [e1]
  exact ⟨Same.refl _, d, hd, fun M2 _ l => rD.mono l d x hr⟩
/-! tests with effects -/
theorem x_not {Q : Bool → Hp → Prop} (h : tt σ H fun c H1 => Q (!c) H1) : tNot tt σ H Q := h
theorem x_b {Q : Bool → Hp → Prop} (h : te σ H fun x H1 => ∃ c, x = .bl c ∧ Q c H1) : tB te σ H Q := h
theorem x_or {Q : Bool → Hp → Prop} (h : tt σ H fun c H1 => if c = true then Q true H1 else tu σ H1 Q) : tOr tt tu σ H Q := h
end
theorem st_norm {u : TS} {D : Ends} {σ σ' : L2.St} {H : Hp} (e : σ = σ') (h : u D σ' H) : u D σ H := by rw [e]; exact h
theorem st_par3 {i j l : Nat} {tA : TA} {u : TS} {D : Ends} {σ : L2.St} {H : Hp} (h : tA σ H fun vs H1 => ∃ a b c, vs = [a, b, c] ∧ u D (((σ.set i (some a)).set j (some b)).set l (some c)) H1) : tSeq (tPar3 i j l tA) u D σ H := h
/-! a list by a condition -/
section
variable {K : PySem.W.Frag} {M : Addr → Prop} {σ : L2.St} {H : Hp} {ta tb : TE} {tt : TT} {b : Bool}
theorem evn_if {α : Type} {en : α → D} {x y : List α} (hc : EVT M σ H tt b) (h1 : b = true → EVN K M σ H ta (x.map en)) (h2 : b = false → EVN K M σ H tb (y.map en)) : EVN K M σ H (tIf tt ta tb) ((if b = true then x else y).map en) := fun H1 w s Q k => hc M H1 w (Ex.same s) _ fun H2 w2 s2 => by
  cases b with
  | true => exact h1 rfl H2 w2 (s.trans s2) _ fun p H3 H4 w3 s3 => k p H3 H4 w3 (s2.trans s3)
  | false => exact h2 rfl H2 w2 (s.trans s2) _ fun p H3 H4 w3 s3 => k p H3 H4 w3 (s2.trans s3)
end
end Lf

set_option Elab.async false
set_option linter.all false
set_option maxRecDepth 100000
set_option maxHeartbeats 4000000
/-! sorted, < and index of data at any depth. -/
namespace Lf
open PySem PySem.Spec PyProof.Rows L2 PySem.W
theorem each_len {α β : Type} {R : α → β → Prop} : ∀ {as : List α} {bs : List β}, EachIs R as bs → as.length = bs.length
  | _, _, .nil => rfl
  | _, _, .cons _ h => congrArg Nat.succ (each_len h)
theorem each_vals {ds : List PyData} : ∀ {vs : List V} {us : List Value}, Vals vs us → ∀ {ds : List PyData}, vs.length = ds.length → EachIs (fun u (b : V × PyData) => RelV b.1 u) us (vs.zip ds)
  | _, _, .nil, ds, _ => by rw [List.zip_nil_left]; exact .nil
  | _, _, .cons r h, [], e => by cases e
  | _, _, .cons r h, d :: ds, e => .cons r (each_vals (ds := ds) h (Nat.succ.inj e))
theorem vals_each : ∀ {bs : List (V × PyData)} {us : List Value}, EachIs (fun u (b : V × PyData) => RelV b.1 u) us bs → Vals (bs.map Prod.fst) us
  | _, _, .nil => .nil
  | _, _, .cons r h => .cons r (vals_each h)
theorem DpAll.len {K : PySem.W.Frag} {H : Hp} : ∀ {vs : List V} {ds : List PyData}, DpAll K H vs ds → vs.length = ds.length
  | _, _, .nil => rfl
  | _, _, .cons _ h => congrArg Nat.succ (DpAll.len h)
theorem each_dp {X : Cx} {pins : List (Addr × Obj)} {σ : L2.St} {H : Hp} {s : Shared} (I : Inv X pins σ H s) : ∀ {vs : List V} {ds : List PyData} {us : List Value}, DpAll X.K H vs ds → Vals vs us → EachIs (fun u (b : V × PyData) => ∃ as, Reads s.heap u b.2 as) us (vs.zip ds)
  | _, _, _, .nil, .nil => .nil
  | _, _, _, .cons h1 h2, .cons r1 r2 => .cons (Dp.reads I _ _ _ h1 r1) (each_dp I h2 r2)
theorem zip_snd {K : PySem.W.Frag} {H : Hp} : ∀ {vs : List V} {ds : List PyData}, DpAll K H vs ds → (vs.zip ds).map Prod.snd = ds
  | _, _, .nil => rfl
  | _, _, .cons _ h => by rw [List.zip_cons_cons, List.map_cons, zip_snd h]
def rSortedD (K : PySem.W.Frag) : List V → Hp → VK → Prop := fun xs H Q => ∃ (a : Addr) (vs : List V) (ds : List PyData), xs = [V.ref a] ∧ SqL K H a vs ∧ DpAll K H vs ds ∧ AllAlike ds ∧ Sortable ds ∧ (∀ d ∈ ds, d.depth ≤ 61) ∧
  ∀ p H', H p = none → Same H H' → H' p = some (.lst (((vs.zip ds).mergeSort (dataLe false Prod.snd)).map Prod.fst)) → Q (.ref p) H'
theorem cr_sortedD {X : Cx} (hu : X.A.units + 65 < cLine) : CallR X (.builtin "sorted") (rSortedD X.K) := by
  intro pins s σ H xs us Q I r h
  obtain ⟨a, vs, ds, rfl, hs, hd, hal, hk, hdep, q⟩ := h
  obtain ⟨its, rv, hl, hz⟩ := I.list hs
  obtain ⟨u, rfl, ru⟩ := vals1 r
  obtain rfl : u = Value.ref a := ru
  have ln := DpAll.len hd
  have lz : (vs.zip ds).length = vs.length := by rw [List.length_zip, ln, Nat.min_self]
  refine sorted_data (enc := Prod.snd) (R := fun u (b : V × PyData) => RelV b.1 u) (bs := vs.zip ds) hl.isList (each_vals (ds := ds) rv ln) (each_dp I hd rv) (by rw [zip_snd hd]; exact hal) (by rw [zip_snd hd]; exact hk) (by rw [lz]; exact hz) (fun b hb => ?_) fun out ho he => ?_
  · have : b.2 ∈ ds := by rw [← zip_snd hd]; exact List.mem_map.mpr ⟨b, hb, rfl⟩
    have := hdep _ this
    omega
  · have vb := vals_each he
    have nd : H (s.heap.objs.size + 1) = none := I.hok.fresh (Nat.le_succ _)
    obtain ⟨n, hn⟩ := sortedAll_at s.heap its out.toArray
    refine ⟨.ref (s.heap.objs.size + 1), upd H (s.heap.objs.size + 1) (.lst (((vs.zip ds).mergeSort (dataLe false Prod.snd)).map Prod.fst)), I.laid (t' := s.toks) (fun b o e => sortedAll_old e) (Nat.le_succ _) ⟨?_, out, n, vb, hn⟩, rfl, q _ _ nd (Same.new nd) upd_same⟩
    rw [List.length_map, List.length_mergeSort, lz]
    exact hz
/-! x < y -/
def rLtD (K : PySem.W.Frag) : R2 := fun x y H Q => ∃ d e, Dp K H x d ∧ Dp K H y e ∧ alike d e = true ∧ d ≠ .none ∧ d.depth ≤ 61 ∧ Q (.bl (dataLt d e)) H
theorem op_ltD {X : Cx} (hu : X.A.units + 65 < cLine) : OpR X (compareOp .Lt) (rLtD X.K) := by
  intro pins s σ H x y v u Q I rx ry h
  obtain ⟨d, e, hd, he, ha, hn, hdep, q⟩ := h
  obtain ⟨as, r1⟩ := Dp.reads I d x v hd rx
  obtain ⟨bs, r2⟩ := Dp.reads I e y u he ry
  exact lt_data r1 r2 ha hn (by omega) ⟨.bl _, H, I, rfl, q⟩
end Lf

set_option Elab.async false
set_option linter.all false
set_option maxRecDepth 100000
set_option maxHeartbeats 4000000
/-! list(zip(a list, a list)). -/
namespace Lf
open PySem PySem.Spec PyProof.Rows L2
/-- a zip of two lists that stands at i; the tuple given out last is T -/
structure ZS (h : Heap) (H : Hp) (z TI TO i1 i2 a b : Addr) (i : Nat) : Prop where
  ti : IsPair h TI (.ref i1) (.ref i2)
  to : ∃ x y, IsPair h TO x y
  p1 : h.IsListIter i1 a i
  p2 : h.IsListIter i2 b i
  zz : IsZip h z TI TO .none ∨ ∃ T f xs, IsZipHeld h z TI TO T f ∧ H T = some (.tup xs)
theorem ZS.keep {h h' : Heap} {H H' : Hp} {z TI TO i1 i2 a b : Addr} {i : Nat} (Z : ZS h H z TI TO i1 i2 a b i) (k : ∀ c ∈ [z, TI, TO, i1, i2], ∀ o, h.get? c = some o → h'.get? c = some o) (l : ∀ T xs, H T = some (.tup xs) → H' T = some (.tup xs)) : ZS h' H' z TI TO i1 i2 a b i := by
  obtain ⟨t1, ⟨x, y, t2⟩, q1, q2, q3⟩ := Z
  refine ⟨k TI (by simp) _ t1, ⟨x, y, k TO (by simp) _ t2⟩, q1.at fun o e => k i1 (by simp) o e, q2.at fun o e => k i2 (by simp) o e, ?_⟩
  rcases q3 with q | ⟨T, f, xs, q, r⟩
  · exact .inl (k z (by simp) _ q)
  · exact .inr ⟨T, f, xs, k z (by simp) _ q, l _ _ r⟩
theorem zip_no_len : typeLookup (.type "zip") "__len__" = pure none := am_miss_of_fast (by decide +kernel)
theorem zip_no_hint : typeLookup (.type "zip") "__length_hint__" = pure none := am_miss_of_fast (by decide +kernel)
def PrsAt (H0 H : Hp) (xs ys vs : List V) : Prop := ∀ (j : Nat) (v : V), vs[j]? = some v → ∃ p x y, v = .ref p ∧ H0 p = none ∧ H p = some (.tup [x, y]) ∧ xs[j]? = some x ∧ ys[j]? = some y
section
variable {X : Cx} {pins : List (Addr × Obj)} {σ : L2.St} {z TI TO i1 i2 a b S : Addr} {xs ys : List V}
theorem lz_next {A : Around} {E : Value → Shared → Prop} {H : Hp} {s : Shared} {i : Nat} {x y : V} {Q : Option Value → Shared → Prop} (D : ZipApart z TI TO i1 i2 a b) (I : Inv X pins σ H s) (hf : ∀ c ∈ [z, TI, TO, i1, i2], FpOk X pins H c) (Z : ZS s.heap H z TI TO i1 i2 a b i)
    (hx : SqL X.K H a xs) (hy : SqL X.K H b ys) (ex : xs[i]? = some x) (ey : ys[i]? = some y)
    (hQ : ∀ T s', H T = none → Inv X pins σ (upd H T (.tup [x, y])) s' → (∀ c ∈ [z, TI, TO, i1, i2], FpOk X pins (upd H T (.tup [x, y])) c) → ZS s'.heap (upd H T (.tup [x, y])) z TI TO i1 i2 a b (i + 1) → Q (some (.ref T)) s') :
    wpAny (model X.prog X.w) A (pyNext (.ref z)) Q E s := by
  obtain ⟨t1, ⟨x0, y0, t2⟩, q1, q2, q3⟩ := Z
  obtain ⟨its, rv, p, _⟩ := I.list hx
  obtain ⟨its2, rv2, p2, _⟩ := I.list hy
  obtain ⟨u, hu, ru⟩ := rv.get ex
  obtain ⟨u2, hu2, ru2⟩ := rv2.get ey
  have nT : H s.heap.objs.size = none := I.hok.fresh (Nat.le_refl _)
  have low : ∀ c o, s.heap.get? c = some o → c ≠ s.heap.objs.size := fun c o e => Nat.ne_of_lt (Heap.lt_size e)
  have lowF : ∀ c ∈ [z, TI, TO, i1, i2], c ≠ s.heap.objs.size := fun c hc => by
    have e' : c = z ∨ c = TI ∨ c = TO ∨ c = i1 ∨ c = i2 := by simpa using hc
    rcases e' with q | q | q | q | q
    · rw [q]; rcases q3 with q | ⟨T, f, ws, q, _⟩ <;> exact low _ _ q
    · rw [q]; exact low _ _ t1
    · rw [q]; exact low _ _ t2
    · rw [q]; obtain ⟨_, e1, _⟩ := q1; exact low _ _ e1
    · rw [q]; obtain ⟨_, e1, _⟩ := q2; exact low _ _ e1
  have fin : ∀ h', IsPair h' s.heap.objs.size u u2 → (∀ c o, c ≠ z → c ≠ TO → c ≠ i1 → c ≠ i2 → s.heap.get? c = some o → h'.get? c = some o) →
      (IsPair h' TI (.ref i1) (.ref i2) → (∀ T ws, H T = some (.tup ws) → (upd H s.heap.objs.size (.tup [x, y])) T = some (.tup ws)) → ZS h' (upd H s.heap.objs.size (.tup [x, y])) z TI TO i1 i2 a b (i + 1)) → Q (some (.ref s.heap.objs.size)) { s with heap := h' } := fun h' hT hk hz => by
    have new : ObjOk X.prog X.w (upd H s.heap.objs.size (.tup [x, y])) h' s.heap.objs.size (.tup [x, y]) :=
      ⟨by show 2 ≤ sizeLine; decide, [u, u2], .cons ru (.cons ru2 .nil), ⟨_, hT, rfl, _, rfl⟩⟩
    have I1 : Inv X pins σ (upd H s.heap.objs.size (.tup [x, y])) { s with heap := h' } :=
      I.turnedNew (t' := s.toks) (ch := [z, TI, TO, i1, i2]) (fun c o hb q => hk c o (fun q' => hb (by simp [q'])) (fun q' => hb (by simp [q'])) (fun q' => hb (by simp [q'])) (fun q' => hb (by simp [q'])) q) hf (Nat.le_refl _) new
    refine hQ _ _ nT I1 (fun c hc => ?_) (hz (hk _ _ D.TIz D.TITO D.TIi1 D.TIi2 t1) fun T ws e => ?_)
    · refine ⟨?_, (hf c hc).2⟩
      rw [upd_ne (lowF c hc)]
      exact (hf c hc).1
    · rw [upd_ne (ne_of_none e nT)]; exact e
  rcases q3 with q | ⟨T, f, ws, q, rT⟩
  · refine nextZ_item (b1 := true) (b2 := true) D q t1 t2 q1 q2 (show SqB true s.heap a its.toArray from p.isList) (show SqB true s.heap b its2.toArray from p2.isList) (x := u) (y := u2) (by simpa using hu) (by simpa using hu2) fun h' z' TO' h1' h2' hT hsz hk => fin h' hT hk fun ti _ => ⟨ti, ⟨_, _, TO'⟩, h1', h2', .inr ⟨_, false, _, z', upd_same⟩⟩
  · obtain ⟨_, _, _, oT, eT, _⟩ := (show ObjOk X.prog X.w H s.heap T (.tup ws) from I.hok T _ rT)
    refine wpAny_pyNext_zip_item_held D q eT t1 q1 q2 p.isList p2.isList (x := u) (y := u2) (by simpa using hu) (by simpa using hu2) fun h' z' h1' h2' hT hsz hk => fin h' hT (fun c o c1 _ c3 c4 e => hk c o c1 c3 c4 e) fun ti l => ⟨ti, ⟨x0, y0, hk _ _ D.TOz D.TOi1 D.TOi2 t2⟩, h1', h2', .inr ⟨T, true, ws, z', l _ _ rT⟩⟩
theorem lz_end {A : Around} {E : Value → Shared → Prop} {H : Hp} {s : Shared} {i : Nat} {Q : Option Value → Shared → Prop} (hh : A.handled = none) (D : ZipApart z TI TO i1 i2 a b) (I : Inv X pins σ H s) (hf : ∀ c ∈ [z, TI, TO, i1, i2], FpOk X pins H c) (Z : ZS s.heap H z TI TO i1 i2 a b i)
    (hx : SqL X.K H a xs) (hy : SqL X.K H b ys) (he : xs.length ≤ i ∨ ys.length ≤ i) (hQ : ∀ s', Inv X pins σ H s' → Q none s') : wpAny (model X.prog X.w) A (pyNext (.ref z)) Q E s := by
  obtain ⟨t1, ⟨x0, y0, t2⟩, q1, q2, q3⟩ := Z
  obtain ⟨its, rv, p, _⟩ := I.list hx
  obtain ⟨its2, rv2, p2, _⟩ := I.list hy
  have l1 := rv.length
  have l2 := rv2.length
  have he : its.toArray[i]? = none ∨ its2.toArray[i]? = none := by
    rcases he with q | q
    · exact .inl (by simp; omega)
    · exact .inr (by simp; omega)
  have fin : ∀ h', (∀ c o, c ≠ z → c ≠ TO → c ≠ i1 → c ≠ i2 → s.heap.get? c = some o → h'.get? c = some o) → Q none { s with heap := h' } := fun h' hk =>
    hQ _ (I.turnedL (t' := s.toks) (ch := [z, TI, TO, i1, i2]) (fun c o hb q => hk c o (fun q' => hb (by simp [q'])) (fun q' => hb (by simp [q'])) (fun q' => hb (by simp [q'])) (fun q' => hb (by simp [q'])) q) hf)
  rcases q3 with q | ⟨T, f, ws, q, rT⟩
  · exact nextZ_end (b1 := true) (b2 := true) hh D q t1 t2 q1 q2 (show SqB true s.heap a its.toArray from p.isList) (show SqB true s.heap b its2.toArray from p2.isList) he fin
  · obtain ⟨_, _, _, oT, eT, _⟩ := (show ObjOk X.prog X.w H s.heap T (.tup ws) from I.hok T _ rT)
    exact wpAny_pyNext_zip_end_held hh D q eT t1 q1 q2 p.isList p2.isList he fun h' hk => fin h' fun c o c1 _ c3 c4 e => hk c o c1 c3 c4 e
/-- the loop that fills the list S -/
theorem lz_loop {A : Around} {res : Value} {R : Result → Shared → Prop} {H0 : Hp} (hh : A.handled = none) (D : ZipApart z TI TO i1 i2 a b) (h0 : H0 S = none) (hx : SqL X.K H0 a xs) (hy : SqL X.K H0 b ys) (hz : min xs.length ys.length ≤ sizeLine)
    (hR : ∀ s' H' vs, Inv X pins σ H' s' → Same H0 H' → H' S = some (.lst vs) → vs.length = min xs.length ys.length → PrsAt H0 H' xs ys vs → R (.ok (.ret res)) s') :
    ∀ (k i : Nat) (s : Shared) (H : Hp) (vs : List V), min xs.length ys.length - i = k → i ≤ min xs.length ys.length → Inv X pins σ H s → (∀ c ∈ [z, TI, TO, i1, i2], FpOk X pins H c) → ZS s.heap H z TI TO i1 i2 a b i →
      Same H0 H → H S = some (.lst vs) → vs.length = i → PrsAt H0 H xs ys vs → codeAny (model X.prog X.w) A (.builtin "list.extend.loop" ⟨[.ref S, .ref z, res], []⟩) R s := by
  intro k
  induction k with
  | zero =>
    intro i s H vs hk hi I hf Z sm hS hl hp
    refine codeAny_builtin F.entry_extend_loop ?_
    rw [Around.under_plainId F.plain_extend_loop _]
    show wpAny _ A.in1 (pyNext (.ref z) >>= _) _ _ s
    refine wpAny_bind (lz_end (A := A.in1) hh D I hf Z (sm.seq hx) (sm.seq hy) (by omega) fun s' I' => ?_)
    exact wpAny_pure (hR s' H vs I' sm hS (by omega) hp)
  | succ k ih =>
    intro i s H vs hk hi I hf Z sm hS hl hp
    have a1 : i < xs.length := by omega
    have a2 : i < ys.length := by omega
    refine codeAny_builtin F.entry_extend_loop ?_
    rw [Around.under_plainId F.plain_extend_loop _]
    show wpAny _ A.in1 (pyNext (.ref z) >>= _) _ _ s
    refine wpAny_bind (lz_next (A := A.in1) D I hf Z (sm.seq hx) (sm.seq hy) (List.getElem?_eq_getElem a1) (List.getElem?_eq_getElem a2) fun T s1 nT I1 hf1 Z1 => ?_)
    have hS1 : (upd H T (.tup [xs[i], ys[i]])) S = some (.lst vs) := by rw [upd_ne (ne_of_none hS nT)]; exact hS
    have sm1 : Same H0 (upd H T (.tup [xs[i], ys[i]])) := sm.trans (Same.new nT)
    have hp1 : PrsAt H0 (upd H T (.tup [xs[i], ys[i]])) xs ys vs := fun j v e => by
      obtain ⟨p, x, y, e1, e0, e2, e3⟩ := hp j v e
      exact ⟨p, x, y, e1, e0, Same.new nT _ _ e2, e3⟩
    have eT : (upd H T (.tup [xs[i], ys[i]])) T = some (.tup [xs[i], ys[i]]) := upd_same
    generalize upd H T (.tup [xs[i], ys[i]]) = H1 at I1 hf1 Z1 hS1 sm1 hp1 eT
    obtain ⟨_, its, c, rv, hO⟩ := (show ObjOk X.prog X.w H1 s1.heap S (.lst vs) from I1.hok S _ hS1)
    have li : its.length = i := by rw [← rv.length]; exact hl
    show wpAny _ A.in1 (updateSeq S (·.push (Value.ref T)) >>= _) _ _ _
    have nS : ∀ c ∈ [z, TI, TO, i1, i2], c ≠ S := fun c hc e => by
      have := (hf1 c hc).1
      rw [e, hS1] at this
      cases this
    refine wpAny_bind (wpAny_updateSeq hO rfl (wpAny_pure ⟨plainId_quiet F.plain_extend_loop _, ?_⟩) (by rw [List.size_toArray, li]; omega) (by show (its.toArray.push _).size ≤ sizeLine + 1; rw [Array.size_push, List.size_toArray, li]; omega))
    have oth : ∀ c o, c ≠ S → s1.heap.get? c = some o → (s1.heap.update S (Obj.mapSeq (·.push (Value.ref T)))).get? c = some o := fun c o hc e => (Heap.get?_update_other _ _ (Ne.symm hc)).trans e
    obtain ⟨c', hN⟩ : ∃ c', (s1.heap.update S (Obj.mapSeq (·.push (Value.ref T)))).get? S = some (seqObj "list" (its ++ [Value.ref T]).toArray c') := ⟨_, by rw [Heap.get?_update_self _ hO rfl, ← List.push_toArray]; rfl⟩
    have I2 : Inv X pins σ (upd H1 S (.lst (vs ++ [V.ref T]))) { s1 with heap := s1.heap.update S (Obj.mapSeq (·.push (Value.ref T))) } :=
      I1.write (e := S) (t' := s1.toks) (by rw [hS1]; trivial) (.inl rfl) oth ⟨_, hN⟩ ⟨by rw [List.length_append, List.length_singleton, hl]; omega, its ++ [Value.ref T], c', rv.append (.cons rfl .nil), hN⟩
    have n2 : ∀ p ws, H1 p = some (.tup ws) → (upd H1 S (.lst (vs ++ [V.ref T]))) p = some (.tup ws) := fun p ws e => by
      rw [upd_ne fun (q : p = S) => by rw [q, hS1] at e; cases e]; exact e
    refine ih (i + 1) _ (upd H1 S (.lst (vs ++ [V.ref T]))) (vs ++ [V.ref T]) (by omega) (by omega) I2 (fun c hc => ⟨?_, (hf1 c hc).2⟩) (Z1.keep (fun c hc o e => oth c o (nS c hc) e) n2) (fun c o e => ?_) upd_same (by rw [List.length_append, List.length_singleton, hl]) (fun j v e => ?_)
    · rw [upd_ne (nS c hc)]; exact (hf1 c hc).1
    · rw [upd_ne fun (q : c = S) => by rw [q, h0] at e; cases e]; exact sm1 c o e
    · by_cases hj : j < vs.length
      · rw [List.getElem?_append_left hj] at e
        obtain ⟨p, x, y, e1, e0, e2, e3⟩ := hp1 j v e
        exact ⟨p, x, y, e1, e0, n2 _ _ e2, e3⟩
      · rw [List.getElem?_append_right (by omega)] at e
        have ej : j = i := by
          have := (List.getElem?_eq_some_iff.mp e).choose
          simp at this
          omega
        subst ej
        rw [hl, Nat.sub_self] at e
        cases e
        exact ⟨T, xs[j], ys[j], rfl, sm.free nT, n2 _ _ eT, List.getElem?_eq_getElem a1, List.getElem?_eq_getElem a2⟩
end
section
variable {X : Cx} {pins : List (Addr × Obj)} {σ : L2.St} {z TI TO i1 i2 a b : Addr} {xs ys : List V}
theorem hint_zip {P : Program} {w : World} {A : Around} {E : Value → Shared → Prop} {s : Shared} {Q : Bool → Shared → Prop} (hT : s.TypeIs (.ref z) "zip") (h : Q true s) : wpAny (model P w) A (Builtin.List.listLengthHint (.ref z)) Q E s := by
  unfold Builtin.List.listLengthHint
  refine wpAny_bind (wpAny_specialOf hT zip_no_len ?_)
  show wpAny _ A (specialOf (Value.ref z) (Str.ofString "__length_hint__") >>= _) _ _ _
  refine wpAny_bind (wpAny_specialOf hT zip_no_hint ?_)
  exact wpAny_pure h
/-- list(a zip that stands at its start) -/
theorem lz_call {A : Around} {E : Value → Shared → Prop} {H : Hp} {s : Shared} {Q : Value → Shared → Prop} (hh : A.handled = none) (D : ZipApart z TI TO i1 i2 a b) (I : Inv X pins σ H s) (hf : ∀ c ∈ [z, TI, TO, i1, i2], FpOk X pins H c) (Z : ZS s.heap H z TI TO i1 i2 a b 0) (hzip : IsZip s.heap z TI TO .none)
    (hx : SqL X.K H a xs) (hy : SqL X.K H b ys) (hz : min xs.length ys.length ≤ sizeLine)
    (hQ : ∀ S s' H' vs, H S = none → Inv X pins σ H' s' → Same H H' → H' S = some (.lst vs) → vs.length = min xs.length ys.length → PrsAt H H' xs ys vs → Q (.ref S) s') :
    wpAny (model X.prog X.w) A (call (.type "list") [.ref z]) Q E s := by
  refine callType_codes (Q₁ := fun obj s₁ => obj = .ref s.heap.objs.size ∧ s₁ = { s with heap := s.heap.push { cls := .type "list", data := .seq #[] } }) PySem.F.called_list (PySem.F.typeCall_list_1 _) PySem.F.entry_list_init
    (code_list_new _ ⟨rfl, rfl⟩) fun obj s₁ h₁ => ?_
  obtain ⟨rfl, rfl⟩ := h₁
  obtain ⟨S, eS⟩ : ∃ S, s.heap.objs.size = S := ⟨_, rfl⟩
  have hS : (s.heap.push { cls := .type "list", data := .seq #[] }).get? S = some { cls := .type "list", data := .seq #[] } := by rw [← eS]; exact Heap.get?_push_size _ rfl
  rw [eS]
  have nS : H S = none := I.hok.fresh (Nat.le_of_eq eS)
  have low : ∀ c o, s.heap.get? c = some o → c ≠ S := fun c o e => by rw [← eS]; exact Nat.ne_of_lt (Heap.lt_size e)
  have lowF : ∀ c ∈ [z, TI, TO, i1, i2], c ≠ S := fun c hc => by
    obtain ⟨t1, ⟨x0, y0, t2⟩, q1, q2, q3⟩ := Z
    have e' : c = z ∨ c = TI ∨ c = TO ∨ c = i1 ∨ c = i2 := by simpa using hc
    rcases e' with q | q | q | q | q
    · rw [q]; exact low _ _ hzip
    · rw [q]; exact low _ _ t1
    · rw [q]; exact low _ _ t2
    · rw [q]; obtain ⟨_, e1, _⟩ := q1; exact low _ _ e1
    · rw [q]; obtain ⟨_, e1, _⟩ := q2; exact low _ _ e1
  refine ⟨⟨_, hS, rfl⟩, PySem.F.args_list_init_2 _ _, ?_⟩
  show wpAny _ _ (do let old ← Builtin.List.listItems (.ref S); Builtin.List.listUpdate (.ref S) (fun _ => #[]); letGo old.toList.reverse; Builtin.List.listExtendWith (.ref S) (.ref z) .none) _ _ _
  refine wpAny_bind ?_
  unfold Builtin.List.listItems
  refine wpAny_bind (wpAny_seqItems hS rfl (wpAny_pure ?_))
  show wpAny _ _ (updateSeq S (fun _ => #[]) >>= fun _ => letGo (#[] : Array Value).toList.reverse >>= fun _ => Builtin.List.listExtendWith (.ref S) (.ref z) .none) _ _ _
  refine wpAny_bind (wpAny_updateSeq hS rfl ?_)
  have hS1 := Heap.get?_update_self (Obj.mapSeq (fun _ => (#[] : Array Value))) hS rfl
  refine wpAny_bind (wpAny_letGo ?_)
  have k1 : ∀ c o, s.heap.get? c = some o → ((s.heap.push { cls := .type "list", data := .seq #[] }).update S (Obj.mapSeq (fun _ => (#[] : Array Value)))).get? c = some o :=
    fun c o e => (Heap.get?_update_other _ _ (Ne.symm (low c o e))).trans (Heap.get?_push_of_some _ e)
  unfold Builtin.List.listExtendWith
  have hT1 : Shared.TypeIs { s with heap := (s.heap.push { cls := .type "list", data := .seq #[] }).update S (Obj.mapSeq (fun _ => (#[] : Array Value))) } (.ref z) "zip" := ⟨_, k1 _ _ hzip, rfl⟩
  refine wpAny_bind (wpAny_typeOf hT1 ?_)
  have h1 : Builtin.List.listSameRef (.ref S) (.ref z) = false := by simp [Builtin.List.listSameRef, (lowF z (by simp)).symm]
  have h2 : (Value.type "zip" == Value.type "list") = false := by decide
  have h3 : (Value.type "zip" == Value.type "tuple") = false := by decide
  simp only [h1, h2, h3, Bool.or_false, Bool.false_eq_true, if_false]
  refine wpAny_bind (wpAny_pyIter_zip (k1 _ _ hzip) ?_)
  refine wpAny_bind (wpAny_holding (hint_zip hT1 ?_))
  simp only [Bool.true_or, if_true]
  refine wpAny_bind (wpAny_rule ?_)
  refine wpAny_bind ?_
  show wpAny _ _ (updateSeq S (·.push .none) >>= fun _ => updateSeq S (·.pop)) _ _ _
  refine wpAny_bind (wpAny_updateSeq hS1 rfl ?_)
  have hS2 := Heap.get?_update_self (Obj.mapSeq (·.push Value.none)) hS1 rfl
  refine wpAny_updateSeq (hz := by seq_fits) hS2 rfl ?_
  have hS3 := Heap.get?_update_self (Obj.mapSeq (·.pop)) hS2 rfl
  have k3 : ∀ c o, s.heap.get? c = some o → ((((s.heap.push { cls := .type "list", data := .seq #[] }).update S (Obj.mapSeq (fun _ => (#[] : Array Value)))).update S (Obj.mapSeq (·.push Value.none))).update S (Obj.mapSeq (·.pop))).get? c = some o :=
    fun c o e => (Heap.get?_update_other _ _ (Ne.symm (low c o e))).trans ((Heap.get?_update_other _ _ (Ne.symm (low c o e))).trans (k1 c o e))
  have I1 : Inv X pins σ (upd H S (.lst [])) { s with heap := (((s.heap.push { cls := .type "list", data := .seq #[] }).update S (Obj.mapSeq (fun _ => (#[] : Array Value)))).update S (Obj.mapSeq (·.push Value.none))).update S (Obj.mapSeq (·.pop)) } :=
    I.laid (t' := s.toks) k3 (Nat.le_of_eq eS) ⟨Nat.zero_le _, [], _, .nil, hS3⟩
  refine wpAny_pure ⟨plainId_quiet PySem.F.plain_extend_loop _, lz_loop (X := X) (pins := pins) (σ := σ) (xs := xs) (ys := ys) (H0 := H) (A := A.in1) (show A.in1.handled = none from hh) D nS hx hy hz (fun s' H' vs I' sm hS' hl hp => ⟨rfl, hQ S s' H' vs nS I' sm hS' hl hp⟩) _ 0 _ (upd H S (.lst [])) [] rfl (Nat.zero_le _) I1 (fun c hc => ⟨?_, (hf c hc).2⟩) (Z.keep (fun c _ o e => k3 c o e) fun T ws e => ?_) (Same.new nS) upd_same rfl (fun j v e => by simp at e)⟩
  · rw [upd_ne (lowF c hc)]; exact (hf c hc).1
  · exact Same.new nS _ _ e
def tLZip (K : PySem.W.Frag) (ta : TA) : TE := fun σ H Q => ta σ H fun vs H1 => ∃ a b xs ys, vs = [.ref a, .ref b] ∧ SqL K H1 a xs ∧ SqL K H1 b ys ∧ min xs.length ys.length ≤ sizeLine ∧
  ∀ S H2 ws, H1 S = none → Same H1 H2 → H2 S = some (.lst ws) → ws.length = min xs.length ys.length → PrsAt H1 H2 xs ys ws → Q (.ref S) H2
theorem pe_lzip {X : Cx} {e e2 : Expr} {ta : TA} {p p2 pos pos2 : Pos} (hc : X.calm = true) (hg : Gl X "list") (hm : X.mg "list" = none) (hg2 : Gl X "zip") (hm2 : X.mg "zip" = none) (ha : PA X [e, e2] ta)
    (hs : starEach [e, e2] X.env = (false, eval e X.env) :: starEach [e2] X.env := by rfl) (hpl : (backTo pos2 (starEach [e2] X.env)).any (·.1) = false := by rfl)
    (na : starEach [.Call (.Name "zip" p2) [e, e2] [] pos2] X.env = (false, eval (.Call (.Name "zip" p2) [e, e2] [] pos2) X.env) :: starEach [] X.env := by rfl) :
    PE X (.Call (.Name "list" p) [.Call (.Name "zip" p2) [e, e2] [] pos2] [] pos) (tLZip X.K ta) := by
  refine ⟨fun pins s σ H Q I h => ?_⟩
  refine Call_ (ld_blt I hg hm boot_list (PyProof.Rows.callWith_type1 (args_cons (Call_ (ld_blt I hg2 hm2 PyProof.Rows.boot_zip (PyProof.Rows.callWith_type1 (thn (ha.run pos2 pins s σ H _ I h) fun us s1 ⟨vs, H1, I1, r1, q1⟩ => ?_) hs hpl))) na) na))
  obtain ⟨a, b, xs, ys, ex, hqx, hqy, hz, q⟩ := q1
  subst ex
  cases r1 with
  | cons r rr =>
    cases rr with
    | cons r' rr =>
      cases rr
      cases r
      cases r'
      have fresh5 : ∀ c, c ∈ [s1.heap.objs.size + 4, s1.heap.objs.size + 2, s1.heap.objs.size + 3, s1.heap.objs.size, s1.heap.objs.size + 1] → FpOk X pins H1 c := fun c hcm => by
        have hle : s1.heap.objs.size ≤ c := by
          have e' : c = s1.heap.objs.size + 4 ∨ c = s1.heap.objs.size + 2 ∨ c = s1.heap.objs.size + 3 ∨ c = s1.heap.objs.size ∨ c = s1.heap.objs.size + 1 := by simpa using hcm
          rcases e' with z | z | z | z | z <;> rw [z] <;> first | exact Nat.le_add_right _ _ | exact Nat.le_refl _
        exact I1.fpOk hle (I1.hok.fresh hle)
      obtain ⟨its, rv, p1, _⟩ := I1.list hqx
      obtain ⟨its2, rv2, p2, _⟩ := I1.list hqy
      refine PySem.call_zip_2 p1.isList p2.isList fun h' hz5 hTI hTO h1 h2 hsz hk => args_nil ?_
      have I2 : Inv X pins σ H1 { s1 with heap := h' } := I1.kept (t' := s1.toks) hk
      refine lz_call (X := X) (pins := pins) (σ := σ) (H := H1) (I1.ok.hd hc) (PySem.W.ktu_apart s1.heap.objs.size a b p1.lt p2.lt) I2 fresh5 ⟨hTI, ⟨_, _, hTO⟩, h1, h2, .inl hz5⟩ hz5 hqx hqy hz fun S s' H' vs nS I' sm hS' hl hp => ?_
      exact ⟨.ref S, H', I', rfl, q S H' vs nS sm hS' hl hp⟩
end
end Lf

set_option Elab.async false
set_option linter.all false
set_option maxRecDepth 100000
set_option maxHeartbeats 4000000
/-! sorted, <, index and list(zip) of encoded data. -/
namespace Lf
open PySem PySem.Spec PyProof.Rows L2 PySem.W
theorem un65 {k : Nat} {A : Around} (r : Room k A) : A.units + 65 < cLine := by have := r.un; omega
section
variable {α : Type} {en : α → D}
/-- x < y, as Python says -/
def ltD (en : α → D) (x y : α) : Bool := dataLt (py (en x)) (py (en y))
def leD (en : α → D) : α → α → Bool := dataLe false fun x => py (en x)
theorem leD_eq (x y : α) : leD en x y = !ltD en y x := rfl
def sortD (en : α → D) (xs : List α) : List α := xs.mergeSort (leD en)
theorem sortD_perm (xs : List α) : (sortD en xs).Perm xs := List.mergeSort_perm _ _
theorem ltD_tr {x y z : α} (h1 : ltD en x y = false) (h2 : ltD en y z = false) : ltD en x z = false := by
  cases h : ltD en x z with
  | false => rfl
  | true =>
    rcases lex_negTrans (O := itemOrd) _ (keyToks (py (en y))) _ (show PyProof.Rows.lexLt itemOrd (keyToks (py (en x))) (keyToks (py (en z))) = true from h) with q | q
    · exact absurd (q.symm.trans h1) (by decide)
    · exact absurd (q.symm.trans h2) (by decide)
theorem ltD_tt {x y z : α} (h1 : ltD en x y = true) (h2 : ltD en y z = true) : ltD en x z = true := lex_trans (O := itemOrd) _ _ _ h1 h2
theorem ltD_irr (x : α) : ltD en x x = false := lex_irrefl (O := itemOrd) _
theorem ltD_asym {x y : α} (h : ltD en x y = true) : ltD en y x = false := by
  cases h' : ltD en y x with
  | false => rfl
  | true => exact absurd ((ltD_tt h h').symm.trans (ltD_irr x)) (by decide)
theorem sortD_srtd (xs : List α) : (sortD en xs).Pairwise fun x y => ltD en y x = false := by
  have := List.pairwise_mergeSort (le := leD en) (fun a b c h1 h2 => by
    rw [leD_eq, Bool.not_eq_true'] at h1 h2 ⊢
    exact ltD_tr h2 h1) (fun a b => by
    rw [leD_eq, leD_eq]
    cases h : ltD en a b with
    | true => rw [ltD_asym h]; rfl
    | false => simp) xs
  exact this.imp fun h => by rw [leD_eq, Bool.not_eq_true'] at h; exact h
theorem eqv_of_toks {x y : PyData} (ha : alike x y = true) (h : keyToks x = keyToks y) : PyData.eqv x y = true := by
  cases e : PyData.eqv x y with
  | true => rfl
  | false =>
    have q := (toks_eqv x y ha).2 e [] [.inl 0]
    rw [h, lex_pre, lex_irrefl] at q
    exact absurd q (by decide)
theorem ltD_tot [DecidableEq α] (i : EqO en) {x y : α} (ha : alike (py (en x)) (py (en y)) = true) (h1 : ltD en x y = false) (h2 : ltD en y x = false) : x = y := by
  have := eqv_of_toks ha (lex_total (O := itemOrd) _ _ h1 h2)
  rw [i x y] at this
  exact of_decide_eq_true this
theorem sortD_uniq [DecidableEq α] (i : EqO en) {xs ys : List α} (ha : ∀ x ∈ xs, ∀ y ∈ xs, alike (py (en x)) (py (en y)) = true) (h1 : ys.Pairwise fun x y => ltD en y x = false) (h2 : ys.Perm xs) : ys = sortD en xs :=
  List.Perm.eq_of_pairwise (le := fun x y => ltD en y x = false) (fun a b m1 m2 h3 h4 => ltD_tot i (ha _ (h2.mem_iff.mp m1) _ ((sortD_perm xs).mem_iff.mp m2)) h4 h3) h1 (sortD_srtd xs) (h2.trans (sortD_perm xs).symm)
/-- what sorted asks for -/
structure SrtOk (en : α → D) (xs : List α) : Prop where
  shp : ∀ x ∈ xs, Shp (en x)
  al : ∀ x ∈ xs, ∀ y ∈ xs, alike (py (en x)) (py (en y)) = true
  nt : (∀ x ∈ xs, ∃ d r, py (en x) = .tuple (d :: r)) ∨ ∀ x ∈ xs, py (en x) ≠ .none ∧ ∀ zs, py (en x) ≠ .tuple zs
variable {K : PySem.W.Frag} {M : Addr → Prop} {σ : L2.St} {H : Hp} {d e : DV}
theorem rDs_pairs {R : RH} : ∀ ps : List (V × α), (∀ p ∈ ps, rD K R (en p.2) p.1) → rDs K R ((ps.map Prod.snd).map en) (ps.map Prod.fst)
  | [], _ => rfl
  | p :: ps, h => ⟨_, _, rfl, h p (List.mem_cons_self ..), rDs_pairs ps fun q hq => h q (List.mem_cons_of_mem _ hq)⟩
theorem rDs_zip {R : RH} : ∀ (xs : List α) (vs : List V), rDs K R (xs.map en) vs → (∀ p ∈ vs.zip xs, rD K R (en p.2) p.1) ∧ vs.length = xs.length
  | [], vs, h => by cases (show vs = [] from h); exact ⟨fun p hp => by simp at hp, rfl⟩
  | x :: xs, vs, h => by
    obtain ⟨v, ws, rfl, h2, h3⟩ := h
    obtain ⟨a1, a2⟩ := rDs_zip xs ws h3
    refine ⟨fun p hp => ?_, by rw [List.length_cons, List.length_cons, a2]⟩
    rw [List.zip_cons_cons] at hp
    rcases List.mem_cons.mp hp with rfl | hp
    · exact h2
    · exact a1 p hp
theorem zip_py : ∀ (vs : List V) (xs : List α), (vs.zip xs).map (fun p => (p.1, py (en p.2))) = vs.zip (pys (xs.map en))
  | [], xs => by rw [List.zip_nil_left, List.zip_nil_left]; rfl
  | v :: vs, [] => by simp [pys]
  | v :: vs, x :: xs => by rw [List.zip_cons_cons, List.map_cons, List.map_cons, pys, List.zip_cons_cons, zip_py vs xs]
theorem rDs.of_get {R : RH} : ∀ {ds : List D} {vs : List V}, vs.length = ds.length → (∀ (j : Nat) (v : V), vs[j]? = some v → ∃ d, ds[j]? = some d ∧ rD K R d v) → rDs K R ds vs
  | [], [], _, _ => rfl
  | [], _ :: _, h, _ => by cases h
  | _ :: _, [], h, _ => by cases h
  | d :: ds, v :: vs, h, f => by
    obtain ⟨d', e, r⟩ := f 0 v rfl
    cases e
    exact ⟨v, vs, rfl, r, rDs.of_get (Nat.succ.inj h) fun j u hj => f (j + 1) u hj⟩
theorem zip_snds : ∀ (vs : List V) (xs : List α), vs.length = xs.length → (vs.zip xs).map Prod.snd = xs
  | [], [], _ => rfl
  | [], _ :: _, h => by cases h
  | _ :: _, [], h => by cases h
  | v :: vs, x :: xs, h => by rw [List.zip_cons_cons, List.map_cons, zip_snds vs xs (Nat.succ.inj h)]
theorem cd_sortD {xs : List α} (hd : LsOf d (xs.map en)) (ok : SrtOk en xs) : CaD K (rSortedD K) [d] (.im (eL en (sortD en xs))) := fun M H w us hu Q k => by
  cases hu with
  | cons h1 h2 =>
    cases h2
    obtain ⟨a, vs, rfl, e2, e3⟩ := hd.get h1
    obtain ⟨hz, hl⟩ := rDs_zip xs vs e3
    have pu : purs (xs.map en) = true := by
      rw [purs_all, List.all_map, List.all_eq_true]
      exact fun x hx => (ok.shp x hx).1
    have em : pys (xs.map en) = xs.map fun x => py (en x) := by rw [pys_map, List.map_map]; rfl
    refine ⟨a, vs, pys (xs.map en), rfl, SqL.of e2, dps_of (M := M) _ _ pu e3, ?_, ?_, ?_, fun p H' np sm hp => k _ H' (w.same sm) sm ?_⟩
    · intro x hx y hy
      rw [em] at hx hy
      obtain ⟨x', m1, rfl⟩ := List.mem_map.mp hx
      obtain ⟨y', m2, rfl⟩ := List.mem_map.mp hy
      exact ok.al x' m1 y' m2
    · rw [em]
      refine ok.nt.imp (fun h d hd => ?_) fun h d hd => ?_
      · obtain ⟨x, hx, rfl⟩ := List.mem_map.mp hd
        exact h x hx
      · obtain ⟨x, hx, rfl⟩ := List.mem_map.mp hd
        exact h x hx
    · intro d hd
      rw [em] at hd
      obtain ⟨x, hx, rfl⟩ := List.mem_map.mp hd
      have := dep_py (en x)
      have := (ok.shp x hx).2
      omega
    · refine ⟨p, _, rfl, w.new np hp, ?_⟩
      obtain ⟨zs, ez⟩ : ∃ zs, zs = (vs.zip xs).mergeSort (leD fun p : V × α => en p.2) := ⟨_, rfl⟩
      have e5 : ((vs.zip (pys (xs.map en))).mergeSort (dataLe false Prod.snd)).map Prod.fst = zs.map Prod.fst := by
        have q := List.map_mergeSort (r := leD fun p : V × α => en p.2) (s := dataLe false Prod.snd) (f := fun p : V × α => (p.1, py (en p.2))) (l := vs.zip xs) (fun a _ b _ => rfl)
        rw [← zip_py, ez, ← q, List.map_map]
        rfl
      have e6 : sortD en xs = zs.map Prod.snd := by
        have q := List.map_mergeSort (r := leD fun p : V × α => en p.2) (s := leD en) (f := Prod.snd) (l := vs.zip xs) (fun a _ b _ => rfl)
        rw [ez, q, zip_snds vs xs hl]
        rfl
      rw [e5, e6]
      exact rDs_pairs zs fun q hq => (hz q (by rw [ez] at hq; exact List.mem_mergeSort.mp hq)).same sm
theorem od_ltD {x y : α} (h1 : Shp (en x)) (h2 : Shp (en y)) (ha : alike (py (en x)) (py (en y)) = true) (hn : py (en x) ≠ .none) : OpD K (rLtD K) (.im (en x)) (.im (en y)) (.im (.bl (ltD en x y))) := fun M H w u v hu hv Q k =>
  ⟨_, _, dp_of (M := M) _ _ h1.1 hu, dp_of (M := M) _ _ h2.1 hv, ha, hn, by have := dep_py (en x); have := h1.2; omega, k _ H w (Same.refl _) rfl⟩
theorem md_indexD [DecidableEq α] {xs : List α} {x : α} (i : EqO en) (h1 : Shp (en x)) (h2 : Shp (eL en xs)) (h : LsOf d (xs.map en)) (hx : x ∈ xs) : MtD K (rIndexD K) d [.im (en x)] (.im (.int (xs.idxOf x : Nat))) := fun M H w v vs hv hvs Q k => by
  cases hvs with
  | cons r1 r2 =>
    cases r2
    have hd : DvOf d (eL en xs) := by
      rcases h with rfl | ⟨L, rfl⟩
      · exact .im
      · exact .mu
    have h3 := hd.dp h2.1 hv
    have s2 := h2.shaped
    have e1 : py (eL en xs) = .list (pys (xs.map en)) := by show py (.lst (xs.map en)) = _; rw [py]
    rw [e1] at h3 s2
    have em : pys (xs.map en) = xs.map fun x => py (en x) := by rw [pys_map, List.map_map]; rfl
    obtain ⟨a, ea⟩ : ∃ a, v = V.ref a := by cases h3; exact ⟨_, rfl⟩
    subst ea
    have lt := List.idxOf_lt_length_of_mem hx
    refine ⟨a, _, py (en x), pys (xs.map en), xs.idxOf x, py (en x), rfl, rfl, h3, dp_of (M := M) _ _ h1.1 r1, s2, h1.shaped, ?_, ?_, fun m z hm hz => ?_, k _ H w (Same.refl _) rfl⟩
    · rw [em, List.getElem?_map, List.getElem?_eq_getElem lt, List.getElem_idxOf lt]; rfl
    · rw [i x x]; exact decide_eq_true rfl
    · rw [em, List.getElem?_map] at hz
      obtain ⟨y, hy, rfl⟩ := Option.map_eq_some_iff.mp hz
      rw [i y x]
      refine decide_eq_false fun e => ?_
      subst e
      obtain ⟨lm, ey⟩ := List.getElem?_eq_some_iff.mp hy
      have := List.not_of_lt_findIdx (p := fun z => z == y) (xs := xs) hm
      rw [ey] at this
      simp at this
end
section
variable {K : PySem.W.Frag} {M : Addr → Prop} {σ : L2.St} {H : Hp} {d e : DV} {tA : TA}
theorem ev_lzip {α β : Type} {ea : α → D} {eb : β → D} {xs : List α} {ys : List β} (h : EVA K M σ H tA [d, e]) (h1 : LsOf d (xs.map ea)) (h2 : LsOf e (ys.map eb)) (hz : min xs.length ys.length ≤ sizeLine) : EV K M σ H (tLZip K tA) (.im (eL (eP2 ea eb) (xs.zip ys))) := fun M' H1 w s Q k => h M' H1 w s _ fun vs H2 w2 s2 hv => by
  cases hv with
  | cons r1 r2 =>
    cases r2 with
    | cons r2 r3 =>
      cases r3
      obtain ⟨a, us, rfl, e2, e3⟩ := h1.get r1
      obtain ⟨b, ws, rfl, f2, f3⟩ := h2.get r2
      have l1 : us.length = xs.length := by rw [e3.len, List.length_map]
      have l2 : ws.length = ys.length := by rw [f3.len, List.length_map]
      refine ⟨a, b, us, ws, rfl, SqL.of e2, SqL.of f2, by rw [l1, l2]; exact hz, fun S H3 zs nS sm hS hl hp => k _ H3 (w2.same sm) (s2.trans sm) ⟨S, zs, rfl, w2.new nS hS, ?_⟩⟩
      refine rDs.of_get (by rw [List.length_map, List.length_zip, hl, l1, l2]) fun j v hj => ?_
      obtain ⟨p, x, y, rfl, n0, hpp, q1, q2⟩ := hp j v hj
      obtain ⟨d1, hd1, hr1⟩ := e3.get q1
      obtain ⟨d2, hd2, hr2⟩ := f3.get q2
      rw [List.getElem?_map] at hd1 hd2
      obtain ⟨u1, hu1, rfl⟩ := Option.map_eq_some_iff.mp hd1
      obtain ⟨u2, hu2, rfl⟩ := Option.map_eq_some_iff.mp hd2
      refine ⟨eP2 ea eb (u1, u2), by rw [List.getElem?_map, List.getElem?_zip_eq_some (z := (u1, u2)) |>.mpr ⟨hu1, hu2⟩]; rfl, ⟨p, _, rfl, .inl ⟨hpp, w2.free n0⟩, ⟨_, _, rfl, ?_, _, _, rfl, ?_, rfl⟩⟩⟩
      · exact rD.mono (Fx.same sm) _ _ hr1
      · exact rD.mono (Fx.same sm) _ _ hr2
end
/-! xs[i] += n of one's own list of ints -/
theorem get_list {X : Cx} : PGet X (rIxL X.K) := by
  intro pins s σ H x y v u Q I rx ry h
  obtain ⟨p, xs, i, z, rfl, rfl, hq, he, q⟩ := h
  cases rx
  obtain ⟨t, rfl⟩ := ry
  obtain ⟨its, r, pl, hz⟩ := I.list hq
  obtain ⟨j, h1, h2, h3, h4, h5⟩ := atI_get he
  obtain ⟨w, ew, rw'⟩ := r.get h2
  have hl := r.length
  have hn := line63
  have fin : EP X pins σ Q w s := ⟨z, H, I, rw', q⟩
  by_cases h0 : 0 ≤ i
  · have hj : i.toNat = j := by
      rw [seqIndex_of h0 h5] at h1
      exact Option.some.inj h1
    exact wpAny_getItem_list pl.isList h0 (by omega) (by rw [hj]; simpa using ew) fin
  · have hj : (i + (its.toArray.size : Int)).toNat = j := by
      rw [seqIndex_neg (by omega) h4] at h1
      rw [List.size_toArray, ← hl]
      exact Option.some.inj h1
    exact wpAny_getItem_list_neg pl.isList (by omega) (by rw [List.size_toArray] <;> omega) (by omega) (by rw [hj]; simpa using ew) fin
section
variable {K : PySem.W.Frag} {σ : L2.St} {H : Hp} {te to ti : TE} {Y : Ends} {u : TS}
theorem st_augL {M0 : Addr → Prop} {Ls : List Addr} {L : Addr} {xs : List Int} {i y : Int} (ho : EV K (mxM M0 Ls) σ H to (.mu L (xs.map D.int))) (hi : EV K (mxM M0 Ls) σ H ti (.im (.int i))) (he : EV K (mxM M0 Ls) σ H te (.im (.int y))) (w : Wd (mxM M0 Ls) H) (hL : L ∈ Ls) (hb : InB xs i)
    (k : ∀ H1, Wd (mxM M0 Ls) H1 → Same H H1 → ∀ H2, (∃ vs, H2 = L2.upd H1 L (.lst vs)) → rV K (mxM M0 Ls) H2 (.mu L ((setI xs i (ixD xs i + y)).map D.int)) (.ref L) → u Y σ H2) : tSeq (tAugS to ti te (rIxL K) rAddI rSetL) u Y σ H :=
  ho.go w fun o H1 w1 s1 h1 => (hi.ex (Ex.same s1)).go w1 fun v H2 w2 s2 h2 => (od_ixLm (en := D.int) LsOf.mu hb) _ H2 w2 o v (h1.same s2) h2 _ fun x H3 w3 s3 h3 =>
    (he.ex (Ex.same ((s1.trans s2).trans s3))).go w3 fun z H4 w4 s4 h4 => od_add _ H4 w4 x z (h3.same s4) h4 _ fun q H5 w5 s5 h5 => by
      have s15 := ((s2.trans s3).trans s4).trans s5
      have e := h1.same s15
      cases (show v = .int i from h2)
      obtain ⟨rfl, _⟩ := id h1
      exact x_setL (en := D.int) e h5 hL hb fun H6 e6 h6 => k H5 w5 (s1.trans s15) H6 e6 h6
end
end Lf

set_option Elab.async false
set_option linter.all false
set_option maxRecDepth 100000
set_option maxHeartbeats 4000000
/-! zip of a text and a list. -/
namespace Lf
open PySem PySem.Spec PyProof.Rows L2
def SaI (h : Heap) (it : Addr) (x : Str) (t : Tok) (k : Nat) : Prop := h.IsStrIter it "str_ascii_iterator" x t k
theorem SaI.at {h h' : Heap} {it : Addr} {x : Str} {t : Tok} {k : Nat} (y : SaI h it x t k) (e : ∀ o, h.get? it = some o → h'.get? it = some o) : SaI h' it x t k :=
  let ⟨o, ho, r⟩ := y; ⟨o, e o ho, r⟩
section
variable {prog : Program} {w : World} {A : Around} {E : Value → Shared → Prop} {s : Shared}
theorem zipS_item {z TI TO i1 i2 l2 : Addr} {x : Str} {t : Tok} {k1 k2 c0 : Nat} {ys : Array Value} {y a b : Value} {Q : Value → Shared → Prop} (D : ZipApart z TI TO i1 i2 l2 l2)
    (hz : IsZip s.heap z TI TO .none) (hTI : IsPair s.heap TI (.ref i1) (.ref i2)) (hTO : IsPair s.heap TO a b)
    (h1 : SaI s.heap i1 x t k1) (h2 : ItB true s.heap i2 l2 k2) (hl2 : SqB true s.heap l2 ys) (hx : x.cps[k1]? = some c0) (hy : ys[k2]? = some y)
    (hQ : ∀ h', IsZip h' z TI TO (rawInt s.heap.objs.size) → IsPair h' TO (.str ⟨#[c0]⟩ s.toks) y → SaI h' i1 x t (k1 + 1) → ItB true h' i2 l2 (k2 + 1) → IsPair h' s.heap.objs.size (.str ⟨#[c0]⟩ s.toks) y → h'.objs.size = s.heap.objs.size + 1 →
      (∀ c o, c ≠ z → c ≠ TO → c ≠ i1 → c ≠ i2 → s.heap.get? c = some o → h'.get? c = some o) → Q (.ref s.heap.objs.size) { s with heap := h', toks := s.toks + 1 }) :
    wpAny (model prog w) A (Builtin.«zip.__next__» ⟨[.ref z], []⟩) (fun fin s' => ∃ v, fin = .done (.ret v) ∧ Q v s') E s := by
  show wpAny _ _ (field (.ref z) 2 >>= _) _ _ _
  refine wpAny_bind (wpAny_field hz rfl (x := .bool false) rfl ?_)
  show wpAny _ _ (field (.ref z) 3 >>= _) _ _ _
  refine wpAny_bind (wpAny_field hz rfl (x := .ref TI) rfl ?_)
  refine wpAny_bind (wpAny_seqItems hTI rfl ?_)
  show wpAny _ _ (Builtin.SmallTypes.ownedTupleIsFree (.ref z) >>= _) _ _ _
  refine wpAny_bind ?_
  unfold Builtin.SmallTypes.ownedTupleIsFree
  refine wpAny_bind (wpAny_field hz rfl (x := .none) rfl (wpAny_pure ?_))
  simp only [if_true]
  refine wpAny_bind (wpAny_rule ?_)
  refine wpAny_bind (wpAny_field hz rfl (x := .ref TO) rfl ?_)
  refine wpAny_bind (wpAny_setField_rec hz (by simp) fun g1 hz1 hs1 => ?_)
  replace hz1 : IsZip g1 z TI TO .ellipsis := hz1
  refine wpAny_bind ?_
  simp only [List.zipIdx_cons, List.zipIdx_nil, List.forIn_cons, List.forIn_nil]
  refine wpAny_bind (wpAny_bind (wpAny_onRaise ?_))
  show wpAny _ _ (Builtin.SmallTypes.nextOf (.ref i1) >>= _) _ _ _
  refine wpAny_bind (wpAny_nextOf_ascii_item (s := { s with heap := g1 }) (h1.at fun o e => hs1.extBut _ _ D.i1z e) hx fun g2 h1a hs2 => wpAny_pure ?_)
  have hTO2 : IsPair g2 TO a b := hs2.extBut _ _ D.TOi1 (hs1.extBut _ _ D.TOz hTO)
  refine wpAny_bind (wpAny_seqItems hTO2 rfl ?_)
  refine wpAny_bind (wpAny_updateSeq_pair hTO2 fun g3 hTO3 hs3 => ?_)
  replace hTO3 : IsPair g3 TO (.str ⟨#[c0]⟩ s.toks) b := hTO3
  refine wpAny_bind (wpAny_letGo (wpAny_pure ?_))
  refine wpAny_bind (wpAny_bind (wpAny_onRaise ?_))
  show wpAny _ _ (Builtin.SmallTypes.nextOf (.ref i2) >>= _) _ _ _
  refine wpAny_bind (nextB_item (s := { s with heap := g3, toks := s.toks + 1 }) (h2.at fun o e => hs3.extBut _ _ D.TOi2.symm (hs2.extBut _ _ D.i12.symm (hs1.extBut _ _ D.i2z e))) (hl2.kept fun o e => hs3.extBut _ _ D.l2TO (hs2.extBut _ _ D.l2i1 (hs1.extBut _ _ D.l2z e))) hy fun g4 h2a hs4 => wpAny_pure ?_)
  have hTO4 : IsPair g4 TO (.str ⟨#[c0]⟩ s.toks) b := hs4.extBut _ _ D.TOi2 hTO3
  refine wpAny_bind (wpAny_seqItems hTO4 rfl ?_)
  refine wpAny_bind (wpAny_updateSeq_pair hTO4 fun g5 hTO5 hs5 => ?_)
  replace hTO5 : IsPair g5 TO (.str ⟨#[c0]⟩ s.toks) y := hTO5
  refine wpAny_bind (wpAny_letGo (wpAny_pure (wpAny_pure ?_)))
  refine wpAny_bind (wpAny_seqItems hTO5 rfl ?_)
  refine wpAny_bind (wpAny_newTuple ?_)
  have hsz : g5.objs.size = s.heap.objs.size := by rw [hs5.1, hs4.1, hs3.1, hs2.1, hs1.1]
  have hz5 : IsZip g5 z TI TO .ellipsis := hs5.extBut _ _ D.TOz.symm (hs4.extBut _ _ D.i2z.symm (hs3.extBut _ _ D.TOz.symm (hs2.extBut _ _ D.i1z.symm hz1)))
  have hk5 : ∀ c o, c ≠ z → c ≠ TO → c ≠ i1 → c ≠ i2 → s.heap.get? c = some o → g5.get? c = some o := fun c o c1 c2 c3 c4 e =>
    hs5.extBut _ _ c2 (hs4.extBut _ _ c4 (hs3.extBut _ _ c2 (hs2.extBut _ _ c3 (hs1.extBut _ _ c1 e))))
  have h1b : SaI g5 i1 x t (k1 + 1) := SaI.at h1a fun o e => hs5.extBut _ _ D.TOi1.symm (hs4.extBut _ _ D.i12 (hs3.extBut _ _ D.TOi1.symm e))
  have h2b : ItB true g5 i2 l2 (k2 + 1) := h2a.at fun o e => hs5.extBut _ _ D.TOi2.symm e
  have hzlt : z < g5.objs.size := Heap.lt_size hz5
  show wpAny _ _ (Builtin.SmallTypes.ownedTupleHandOut (.ref z) (.ref g5.objs.size) >>= _) _ _ _
  refine wpAny_bind ?_
  unfold Builtin.SmallTypes.ownedTupleHandOut
  have hz6 : IsZip (g5.push { cls := .type "tuple", data := .seq #[.str ⟨#[c0]⟩ s.toks, y] }) z TI TO .ellipsis := Heap.get?_push_of_some _ hz5
  refine wpAny_bind (wpAny_setField_rec hz6 (by simp) fun g7 hz7 hs7 => ?_)
  replace hz7 : IsZip g7 z TI TO (rawInt g5.objs.size) := hz7
  refine wpAny_setField_rec hz7 (by simp) fun g8 hz8 hs8 => ?_
  replace hz8 : IsZip g8 z TI TO (rawInt g5.objs.size) := hz8
  have up : ∀ c o, c ≠ z → g5.get? c = some o → g8.get? c = some o := fun c o c1 e => hs8.extBut _ _ c1 (hs7.extBut _ _ c1 (Heap.get?_push_of_some _ e))
  have hT8 : IsPair g8 g5.objs.size (.str ⟨#[c0]⟩ s.toks) y := hs8.extBut _ _ (Nat.ne_of_gt hzlt) (hs7.extBut _ _ (Nat.ne_of_gt hzlt) (Heap.get?_push_size _ rfl))
  have hs9 : g8.objs.size = g5.objs.size + 1 := by rw [hs8.1, hs7.1, Heap.size_push]
  rw [hsz] at hz8 hT8 hs9
  refine wpAny_pure ⟨_, rfl, ?_⟩
  show Q (.ref g5.objs.size) _
  rw [hsz]
  exact hQ g8 hz8 (up _ _ D.TOz hTO5) (h1b.at fun o e => up _ o D.i1z e) (h2b.at fun o e => up _ o D.i2z e) hT8 hs9 fun c o c1 c2 c3 c4 e => up c o c1 (hk5 c o c1 c2 c3 c4 e)
theorem zipS_end {z TI TO i1 i2 l2 : Addr} {x : Str} {t : Tok} {k1 k2 : Nat} {ys : Array Value} {a b : Value} {Q : Fin → Shared → Prop} (hh : A.handled = none) (D : ZipApart z TI TO i1 i2 l2 l2)
    (hz : IsZip s.heap z TI TO .none) (hTI : IsPair s.heap TI (.ref i1) (.ref i2)) (hTO : IsPair s.heap TO a b)
    (h1 : SaI s.heap i1 x t k1) (h2 : ItB true s.heap i2 l2 k2) (hl2 : SqB true s.heap l2 ys) (hend : x.cps[k1]? = none ∨ ys[k2]? = none)
    (hE : ∀ h' tk e, (∀ c o, c ≠ z → c ≠ TO → c ≠ i1 → c ≠ i2 → s.heap.get? c = some o → h'.get? c = some o) → (∃ o, h'.get? e = some o ∧ o.cls = .type "StopIteration") → E (.ref e) { s with heap := h', toks := tk }) :
    wpAny (model prog w) A (Builtin.«zip.__next__» ⟨[.ref z], []⟩) Q E s := by
  show wpAny _ _ (field (.ref z) 2 >>= _) _ _ _
  refine wpAny_bind (wpAny_field hz rfl (x := .bool false) rfl ?_)
  show wpAny _ _ (field (.ref z) 3 >>= _) _ _ _
  refine wpAny_bind (wpAny_field hz rfl (x := .ref TI) rfl ?_)
  refine wpAny_bind (wpAny_seqItems hTI rfl ?_)
  show wpAny _ _ (Builtin.SmallTypes.ownedTupleIsFree (.ref z) >>= _) _ _ _
  refine wpAny_bind ?_
  unfold Builtin.SmallTypes.ownedTupleIsFree
  refine wpAny_bind (wpAny_field hz rfl (x := .none) rfl (wpAny_pure ?_))
  simp only [if_true]
  refine wpAny_bind (wpAny_rule ?_)
  refine wpAny_bind (wpAny_field hz rfl (x := .ref TO) rfl ?_)
  refine wpAny_bind (wpAny_setField_rec hz (by simp) fun g1 hz1 hs1 => ?_)
  replace hz1 : IsZip g1 z TI TO .ellipsis := hz1
  refine wpAny_bind ?_
  simp only [List.zipIdx_cons, List.zipIdx_nil, List.forIn_cons, List.forIn_nil]
  refine wpAny_bind (wpAny_bind (wpAny_onRaise ?_))
  show wpAny _ _ (Builtin.SmallTypes.nextOf (.ref i1) >>= _) _ _ _
  have h1g : SaI g1 i1 x t k1 := h1.at fun o e => hs1.extBut _ _ D.i1z e
  cases hx : x.cps[k1]? with
  | none =>
    refine wpAny_bind (wpAny_nextOf_ascii_end (s := { s with heap := g1 }) hh h1g hx fun g2 e hs2 he => ?_)
    obtain ⟨oe, hoe, hce⟩ := he
    have hz2 : IsZip g2 z TI TO .ellipsis := hs2 _ _ D.i1z.symm hz1
    have hez : e ≠ z := fun x => by subst x; rw [hz2] at hoe; cases hoe; simp at hce
    refine wpAny_setField_rec hz2 (by simp) fun g3 _ hs3 => hE g3 s.toks e (fun c o c1 _ c3 _ x => hs3.extBut _ _ c1 (hs2 _ _ c3 (hs1.extBut _ _ c1 x))) ⟨oe, hs3.extBut _ _ hez hoe, hce⟩
  | some c0 =>
    have hy : ys[k2]? = none := by rcases hend with h | h; rw [hx] at h; cases h; exact h
    refine wpAny_bind (wpAny_nextOf_ascii_item (s := { s with heap := g1 }) h1g hx fun g2 h1a hs2 => wpAny_pure ?_)
    have hTO2 : IsPair g2 TO a b := hs2.extBut _ _ D.TOi1 (hs1.extBut _ _ D.TOz hTO)
    refine wpAny_bind (wpAny_seqItems hTO2 rfl ?_)
    refine wpAny_bind (wpAny_updateSeq_pair hTO2 fun g3 hTO3 hs3 => ?_)
    refine wpAny_bind (wpAny_letGo (wpAny_pure ?_))
    refine wpAny_bind (wpAny_bind (wpAny_onRaise ?_))
    show wpAny _ _ (Builtin.SmallTypes.nextOf (.ref i2) >>= _) _ _ _
    refine wpAny_bind (nextB_end (s := { s with heap := g3, toks := s.toks + 1 }) hh (h2.at fun o e => hs3.extBut _ _ D.TOi2.symm (hs2.extBut _ _ D.i12.symm (hs1.extBut _ _ D.i2z e))) (hl2.kept fun o e => hs3.extBut _ _ D.l2TO (hs2.extBut _ _ D.l2i1 (hs1.extBut _ _ D.l2z e))) hy fun g4 e hs4 he => ?_)
    obtain ⟨oe, hoe, hce⟩ := he
    have hz4 : IsZip g4 z TI TO .ellipsis := hs4 _ _ D.i2z.symm (hs3.extBut _ _ D.TOz.symm (hs2.extBut _ _ D.i1z.symm hz1))
    have hez : e ≠ z := fun x => by subst x; rw [hz4] at hoe; cases hoe; simp at hce
    refine wpAny_setField_rec hz4 (by simp) fun g5 _ hs5 => hE g5 (s.toks + 1) e (fun c o c1 c2 c3 c4 x => hs5.extBut _ _ c1 (hs4 _ _ c4 (hs3.extBut _ _ c2 (hs2.extBut _ _ c3 (hs1.extBut _ _ c1 x))))) ⟨oe, hs5.extBut _ _ hez hoe, hce⟩
theorem nextZS_item {z TI TO i1 i2 l2 : Addr} {x : Str} {t : Tok} {k1 k2 c0 : Nat} {ys : Array Value} {y a b : Value} {Q : Option Value → Shared → Prop} (D : ZipApart z TI TO i1 i2 l2 l2)
    (hz : IsZip s.heap z TI TO .none) (hTI : IsPair s.heap TI (.ref i1) (.ref i2)) (hTO : IsPair s.heap TO a b)
    (h1 : SaI s.heap i1 x t k1) (h2 : ItB true s.heap i2 l2 k2) (hl2 : SqB true s.heap l2 ys) (hx : x.cps[k1]? = some c0) (hy : ys[k2]? = some y)
    (hQ : ∀ h', IsZip h' z TI TO (rawInt s.heap.objs.size) → IsPair h' TO (.str ⟨#[c0]⟩ s.toks) y → SaI h' i1 x t (k1 + 1) → ItB true h' i2 l2 (k2 + 1) → IsPair h' s.heap.objs.size (.str ⟨#[c0]⟩ s.toks) y → h'.objs.size = s.heap.objs.size + 1 →
      (∀ c o, c ≠ z → c ≠ TO → c ≠ i1 → c ≠ i2 → s.heap.get? c = some o → h'.get? c = some o) → Q (some (.ref s.heap.objs.size)) { s with heap := h', toks := s.toks + 1 }) :
    wpAny (model prog w) A (pyNext (.ref z)) Q E s := by
  have hT : s.TypeIs (.ref z) "zip" := ⟨_, hz, rfl⟩
  unfold pyNext
  exact wpAny_bind (wpAny_attempt (wpAny_callSpecial?_slot (name := Str.ofString "__next__") hT F.slot_zip_next
    (wpAny_call_entry F.slot_zip_next hT F.entry_zip_next
      (zipS_item D hz hTI hTO h1 h2 hl2 hx hy fun h' a1 a2 a3 a4 a5 a6 a7 => wpAny_pure (hQ h' a1 a2 a3 a4 a5 a6 a7)) (F.args_zip_next_1 _))))
theorem nextZS_end {z TI TO i1 i2 l2 : Addr} {x : Str} {t : Tok} {k1 k2 : Nat} {ys : Array Value} {a b : Value} {Q : Option Value → Shared → Prop} (hh : A.handled = none) (D : ZipApart z TI TO i1 i2 l2 l2)
    (hz : IsZip s.heap z TI TO .none) (hTI : IsPair s.heap TI (.ref i1) (.ref i2)) (hTO : IsPair s.heap TO a b)
    (h1 : SaI s.heap i1 x t k1) (h2 : ItB true s.heap i2 l2 k2) (hl2 : SqB true s.heap l2 ys) (hend : x.cps[k1]? = none ∨ ys[k2]? = none)
    (hQ : ∀ h' tk, (∀ c o, c ≠ z → c ≠ TO → c ≠ i1 → c ≠ i2 → s.heap.get? c = some o → h'.get? c = some o) → Q none { s with heap := h', toks := tk }) : wpAny (model prog w) A (pyNext (.ref z)) Q E s := by
  have hT : s.TypeIs (.ref z) "zip" := ⟨_, hz, rfl⟩
  unfold pyNext
  refine wpAny_bind (wpAny_attempt (wpAny_callSpecial?_slot (name := Str.ofString "__next__") hT F.slot_zip_next
    (wpAny_call_entry F.slot_zip_next hT F.entry_zip_next (zipS_end hh D hz hTI hTO h1 h2 hl2 hend fun h' tk e hk he => ?_) (F.args_zip_next_1 _))))
  obtain ⟨o, ho, hc⟩ := he
  refine wpAny_bind (wpAny_isInstance (T := "StopIteration") (b := true) ⟨o, ho, hc⟩ isSubtype_stop ?_)
  exact wpAny_pure (hQ _ _ hk)
end
def ItzS (K : PySem.W.Frag) (x : Str) (b : Addr) : It :=
  ⟨fun i H => ∃ (ys : List V) (c : Nat) (y : V), SqL K H b ys ∧ x.cps[i]? = some c ∧ ys[i]? = some y,
    fun i H v H' => ∃ T c y, v = .ref T ∧ H T = none ∧ H' = upd H T (.tup [.str ⟨#[c]⟩, y]) ∧ x.cps[i]? = some c ∧ ∀ ys, SqL K H b ys → ys[i]? = some y,
    fun i H => ∃ ys : List V, SqL K H b ys ∧ (x.cps.size ≤ i ∨ ys.length ≤ i)⟩
theorem turn_zipS {P : Program} {w : World} {K : PySem.W.Frag} {elts : List Expr} {kk : Nat} {tpos : Pos} {b z TI TO i1 i2 : Addr} {sx : Str} {t : Tok} (D : ZipApart z TI TO i1 i2 b b) :
    Turn P w K (.Tuple elts kk tpos) (ItzS K sx b) [z, TI, TO, i1, i2] z (fun i h => IsZip h z TI TO .none ∧ IsPair h TI (.ref i1) (.ref i2) ∧ (∃ x y, IsPair h TO x y) ∧ SaI h i1 sx t i ∧ ItB true h i2 b i) where
  mem := by simp
  obj := fun i h st c hc => by
    obtain ⟨hz, hTI, ⟨x, y, hTO⟩, h1, h2⟩ := st
    obtain ⟨o1, e1, _, d1⟩ := h1
    obtain ⟨o2, v2, e2, d2⟩ := h2.ex
    have e' : c = z ∨ c = TI ∨ c = TO ∨ c = i1 ∨ c = i2 := by simpa using hc
    rcases e' with q | q | q | q | q
    · rw [q]; exact ⟨_, hz, fun v q => nomatch q⟩
    · rw [q]; exact ⟨_, hTI, fun v q => nomatch q⟩
    · rw [q]; exact ⟨_, hTO, fun v q => nomatch q⟩
    · rw [q]; exact ⟨o1, e1, fun v q => by rw [d1] at q; cases q⟩
    · rw [q]; exact ⟨o2, e2, fun v q => by rw [d2] at q; cases q⟩
  keep := fun i h h' st k => by
    obtain ⟨hz, hTI, ⟨x, y, hTO⟩, h1, h2⟩ := st
    exact ⟨k z (by simp) _ hz, k TI (by simp) _ hTI, ⟨x, y, k TO (by simp) _ hTO⟩, h1.at fun o q => k i1 (by simp) o q, h2.at fun o q => k i2 (by simp) o q⟩
  item := by
    intro X hP hw hK hc i pins s σ H E I hf st hg
    subst hP hw hK
    obtain ⟨hz, hTI, ⟨x0, y0, hTO⟩, h1, h2⟩ := st
    obtain ⟨ys, c, y, hqy, hx, hy⟩ := hg
    obtain ⟨its2, rv2, p2, _⟩ := I.list hqy
    obtain ⟨u2, hu2, ru2⟩ := rv2.get hy
    have hzl : z < s.heap.objs.size := Heap.lt_size hz
    refine nextZS_item D hz hTI hTO h1 h2 (show SqB true s.heap b its2.toArray from p2.isList) hx (y := u2) (by simpa using hu2) fun h' z' TO' h1' h2' hT hsz hk => ?_
    refine ⟨_, rfl, wpAny_letOwnedTupleGo_zip (s := { s with heap := h', toks := s.toks + 1 }) z' fun h'' z'' sb => ?_⟩
    have hT2 : h''.get? s.heap.objs.size = some { cls := .type "tuple", data := .seq #[.str ⟨#[c]⟩ s.toks, u2] } := (sb.2 _ (Nat.ne_of_gt hzl)).trans hT
    have new : ObjOk X.prog X.w (upd H s.heap.objs.size (.tup [.str ⟨#[c]⟩, y])) h'' s.heap.objs.size (.tup [.str ⟨#[c]⟩, y]) :=
      ⟨by show 2 ≤ sizeLine; decide, [.str ⟨#[c]⟩ s.toks, u2], .cons ⟨_, rfl⟩ (.cons ru2 .nil), ⟨_, hT2, rfl, _, rfl⟩⟩
    have I1 : Inv X pins σ (upd H s.heap.objs.size (.tup [.str ⟨#[c]⟩, y])) { s with heap := h'', toks := s.toks + 1 } :=
      I.turnedNew (t' := s.toks + 1) (ch := [z, TI, TO, i1, i2]) (fun c o hb q => (sb.2 c (fun q' => hb (by simp [q']))).trans (hk c o (fun q' => hb (by simp [q'])) (fun q' => hb (by simp [q'])) (fun q' => hb (by simp [q'])) (fun q' => hb (by simp [q'])) q)) hf (Nat.le_refl _) new
    refine ⟨.ref s.heap.objs.size, _, I1, rfl, ⟨_, c, y, rfl, I.hok.fresh (Nat.le_refl _), rfl, hx, fun l hl => by rw [I.list_inj hl hqy]; exact hy⟩, ⟨z'', ?_, ⟨.str ⟨#[c]⟩ s.toks, u2, ?_⟩, ?_, ?_⟩, fun c hcm => ?_⟩
    · exact (sb.2 _ D.TIz).trans (hk _ _ D.TIz D.TITO D.TIi1 D.TIi2 hTI)
    · exact (sb.2 _ D.TOz).trans TO'
    · exact h1'.at fun o q => (sb.2 _ D.i1z).trans q
    · exact h2'.at fun o q => (sb.2 _ D.i2z).trans q
    · have hlt : c < s.heap.objs.size := by
        have e' : c = z ∨ c = TI ∨ c = TO ∨ c = i1 ∨ c = i2 := by simpa using hcm
        rcases e' with q | q | q | q | q
        · rw [q]; exact hzl
        · rw [q]; exact Heap.lt_size hTI
        · rw [q]; exact Heap.lt_size hTO
        · rw [q]; obtain ⟨_, e1, _⟩ := h1; exact Heap.lt_size e1
        · rw [q]; obtain ⟨_, _, e2, _⟩ := h2.ex; exact Heap.lt_size e2
      rw [upd_ne (Nat.ne_of_lt hlt)]
      exact (hf c hcm).1
  done := by
    intro X hP hw hK hc i pins s σ H E I hf st hg
    subst hP hw hK
    obtain ⟨hz, hTI, ⟨x0, y0, hTO⟩, h1, h2⟩ := st
    obtain ⟨ys, hqy, hend⟩ := hg
    obtain ⟨its2, rv2, p2, _⟩ := I.list hqy
    have l2 := rv2.length
    have he : sx.cps[i]? = none ∨ its2.toArray[i]? = none := by
      rcases hend with q | q
      · exact .inl (Array.getElem?_eq_none q)
      · exact .inr (by simp; omega)
    exact nextZS_end (I.ok.hd hc) D hz hTI hTO h1 h2 (show SqB true s.heap b its2.toArray from p2.isList) he fun h' tk hk => ⟨rfl, I.turnedL (t' := tk) (ch := [z, TI, TO, i1, i2]) (fun c o hb q =>
      hk c o (fun q' => hb (by simp [q'])) (fun q' => hb (by simp [q'])) (fun q' => hb (by simp [q'])) (fun q' => hb (by simp [q'])) q) hf⟩
  self := fun A i s Q E st h => wpAny_pyIter_zip st.1 h
abbrev zsH2 (h : Heap) (x : Str) (t : Tok) (l2 : Addr) : Heap := (h.push { cls := .type "str_ascii_iterator", data := .fields #[.str x t, .int 0 0] }).push { cls := .type "list_iterator", data := .fields #[.ref l2, .int 0 0] }
abbrev zsH3 (h : Heap) (x : Str) (t : Tok) (l2 : Addr) : Heap := (zsH2 h x t l2).push { cls := .type "tuple", data := .seq #[.ref h.objs.size, .ref (h.push { cls := .type "str_ascii_iterator", data := .fields #[.str x t, .int 0 0] }).objs.size] }
abbrev zsH4 (h : Heap) (x : Str) (t : Tok) (l2 : Addr) : Heap := (zsH3 h x t l2).push { cls := .type "tuple", data := .seq #[.none, .none] }
abbrev zsH5 (h : Heap) (x : Str) (t : Tok) (l2 : Addr) : Heap := (zsH4 h x t l2).push { cls := .type "zip", data := .fields #[.none, .bool false, .bool false, .ref (zsH2 h x t l2).objs.size, .ref (zsH3 h x t l2).objs.size] }
theorem meets_zipS_new (x : Str) (t : Tok) (ha : x.cps.all (· < 128) = true) (l2 : Addr) (ys : Array Value) :
    Meets (Builtin.«zip.__new__» ⟨[.type "zip", .str x t, .ref l2], []⟩) (fun _ R s => s.heap.IsList l2 ys ∧
      R (.ok (.ret (.ref (zsH4 s.heap x t l2).objs.size))) { s with heap := zsH5 s.heap x t l2 }) :=
  .of_wp fun prog w A R s h => by
    obtain ⟨hp, g, d, tk, os⟩ := s; obtain ⟨hl2, h⟩ := h
    have hsub := sub_zip
    have hL2 : Heap.IsList (Shared.heap ⟨hp.push { cls := .type "str_ascii_iterator", data := .fields #[.str x t, .int 0 0] }, g, d, tk, os⟩) l2 ys := Heap.IsList.push hl2 _
    wp_walk using wpAny_pyIter_ascii ha, wpAny_pyIter_list hL2
    exact ⟨_, rfl, h⟩
section
variable {prog : Program} {w : World} {A : Around} {E : Value → Shared → Prop} {s : Shared}
theorem call_zipS {l2 : Addr} {x : Str} {t : Tok} {ys : Array Value} {Q : Value → Shared → Prop} (ha : x.cps.all (· < 128) = true) (hl2 : s.heap.IsList l2 ys)
    (h : ∀ h', IsZip h' (s.heap.objs.size + 4) (s.heap.objs.size + 2) (s.heap.objs.size + 3) .none → IsPair h' (s.heap.objs.size + 2) (.ref s.heap.objs.size) (.ref (s.heap.objs.size + 1)) →
      IsPair h' (s.heap.objs.size + 3) .none .none → SaI h' s.heap.objs.size x t 0 → h'.IsListIter (s.heap.objs.size + 1) l2 0 → h'.objs.size = s.heap.objs.size + 5 →
      (∀ c o, s.heap.get? c = some o → h'.get? c = some o) → Q (.ref (s.heap.objs.size + 4)) { s with heap := h' }) :
    wpAny (model prog w) A (call (.type "zip") [.str x t, .ref l2]) Q E s := by
  refine callType_new F.called_zip (by decide) (F.typeCall_zip_2 _ _) (F.newCall_zip_2 _ _) (fun obj => F.args_object_init_3 obj _ _) F.entry_zip_new
    (meets_zipS_new x t ha l2 ys) ⟨hl2, ?_⟩
  have z1 : (s.heap.push { cls := .type "str_ascii_iterator", data := .fields #[.str x t, .int 0 0] }).objs.size = s.heap.objs.size + 1 := Heap.size_push ..
  have z2 : (zsH2 s.heap x t l2).objs.size = s.heap.objs.size + 2 := by rw [Heap.size_push, z1]
  have z3 : (zsH3 s.heap x t l2).objs.size = s.heap.objs.size + 3 := by rw [Heap.size_push, z2]
  have z4 : (zsH4 s.heap x t l2).objs.size = s.heap.objs.size + 4 := by rw [Heap.size_push, z3]
  have z5 : (zsH5 s.heap x t l2).objs.size = s.heap.objs.size + 5 := by rw [Heap.size_push, z4]
  have g5 : (zsH5 s.heap x t l2).get? (zsH4 s.heap x t l2).objs.size = some _ := Heap.get?_push_size _ rfl
  have g4 : (zsH5 s.heap x t l2).get? (zsH3 s.heap x t l2).objs.size = some _ := Heap.get?_push_of_some _ (Heap.get?_push_size _ rfl)
  have g3 : (zsH5 s.heap x t l2).get? (zsH2 s.heap x t l2).objs.size = some _ := Heap.get?_push_of_some _ (Heap.get?_push_of_some _ (Heap.get?_push_size _ rfl))
  have g2 : (zsH5 s.heap x t l2).get? (s.heap.push { cls := .type "str_ascii_iterator", data := .fields #[.str x t, .int 0 0] }).objs.size = some _ := Heap.get?_push_of_some _ (Heap.get?_push_of_some _ (Heap.get?_push_of_some _ (Heap.get?_push_size _ rfl)))
  have g1 : (zsH5 s.heap x t l2).get? s.heap.objs.size = some _ := Heap.get?_push_of_some _ (Heap.get?_push_of_some _ (Heap.get?_push_of_some _ (Heap.get?_push_of_some _ (Heap.get?_push_size _ rfl))))
  show _ ∧ _
  rw [z2, z3, z4] at g5
  rw [z1, z2] at g3
  rw [z3] at g4
  rw [z1] at g2
  rw [z4]
  exact ⟨⟨_, g5, rfl⟩, h _ g5 g3 g4 ⟨_, g1, rfl, rfl⟩ ⟨_, g2, rfl, rfl⟩ z5 fun c o q =>
    Heap.get?_push_of_some _ (Heap.get?_push_of_some _ (Heap.get?_push_of_some _ (Heap.get?_push_of_some _ (Heap.get?_push_of_some _ q))))⟩
end
/-- zip(a text, a list) -/
def iZipS (K : PySem.W.Frag) (ta : TA) : TI := fun σ H R => ta σ H fun vs H1 => ∃ x b ys, vs = [.str x, .ref b] ∧ x.cps.all (· < 128) = true ∧ SqL K H1 b ys ∧ R (ItzS K x b) H1
theorem pi_zipS {X : Cx} {e e2 : Expr} {ta : TA} {p pos tpos : Pos} {elts : List Expr} {kk : Nat} (hg : Gl X "zip") (hm : X.mg "zip" = none) (ha : PA X [e, e2] ta)
    (hs : starEach [e, e2] X.env = (false, eval e X.env) :: starEach [e2] X.env := by rfl) (hpl : (backTo pos (starEach [e2] X.env)).any (·.1) = false := by rfl) :
    PI X (.Tuple elts kk tpos) (.Call (.Name "zip" p) [e, e2] [] pos) (iZipS X.K ta) := by
  refine ⟨fun pins s σ H R I h => ?_⟩
  refine Call_ (ld_blt I hg hm PyProof.Rows.boot_zip (PyProof.Rows.callWith_type1 (thn (ha.run pos pins s σ H _ I h) fun us s1 ⟨vs, H1, I1, r1, q1⟩ => ?_) hs hpl))
  obtain ⟨x, b, ys, ex, hasc, hqy, q⟩ := q1
  subst ex
  cases r1 with
  | cons r rr =>
    cases rr with
    | cons r' rr =>
      cases rr
      obtain ⟨t, rfl⟩ := r
      cases r'
      have fresh5 : ∀ c, c ∈ [s1.heap.objs.size + 4, s1.heap.objs.size + 2, s1.heap.objs.size + 3, s1.heap.objs.size, s1.heap.objs.size + 1] → FpOk X pins H1 c := fun c hcm => by
        have hle : s1.heap.objs.size ≤ c := by
          have e' : c = s1.heap.objs.size + 4 ∨ c = s1.heap.objs.size + 2 ∨ c = s1.heap.objs.size + 3 ∨ c = s1.heap.objs.size ∨ c = s1.heap.objs.size + 1 := by simpa using hcm
          rcases e' with z | z | z | z | z <;> rw [z] <;> first | exact Nat.le_add_right _ _ | exact Nat.le_refl _
        exact I1.fpOk hle (I1.hok.fresh hle)
      obtain ⟨its2, rv2, p2, _⟩ := I1.list hqy
      refine call_zipS hasc p2.isList fun h' hz hTI hTO h1 h2 hsz hk => wpAny_pyIter_zip hz ?_
      have I2 : Inv X pins σ H1 { s1 with heap := h' } := I1.kept (t' := s1.toks) hk
      exact ⟨s1.heap.objs.size + 4, [s1.heap.objs.size + 4, s1.heap.objs.size + 2, s1.heap.objs.size + 3, s1.heap.objs.size, s1.heap.objs.size + 1], _, _, H1, rfl, I2, turn_zipS (PySem.W.ktu_apart s1.heap.objs.size b b p2.lt p2.lt), ⟨hz, hTI, ⟨_, _, hTO⟩, h1, h2⟩, fresh5, q⟩
theorem signs_get {x : Str} {i c : Nat} (h : x.cps[i]? = some c) : (signs x)[i]? = some ⟨#[c]⟩ := by
  unfold signs
  rw [List.getElem?_map, Array.getElem?_toList, h]
  rfl
theorem signs_len {x : Str} : (signs x).length = x.cps.size := by unfold signs; rw [List.length_map, Array.length_toList]
theorem walk_zipS {K : PySem.W.Frag} {x : Str} {b : Addr} {ys : List V} {n : Nat} (hn : n = min x.cps.size ys.length) : Walk (ItzS K x b) n (fun H => SqL K H b ys) (YPair (fun i => (signs x)[i]?.map V.str) (fun i => ys[i]?)) := by
  refine ⟨fun i H hi h => ?_, fun H h => ⟨ys, h, by omega⟩, fun i H v H' hi h y => ?_⟩
  · have h1 : i < x.cps.size := by omega
    have h2 : i < ys.length := by omega
    exact ⟨ys, x.cps[i], ys[i], h, Array.getElem?_eq_getElem h1, List.getElem?_eq_getElem h2⟩
  · obtain ⟨T, c, y, e1, e2, e3, e4, e5⟩ := y
    exact ⟨T, .str ⟨#[c]⟩, y, e1, e2, e3, by dsimp only; rw [signs_get e4]; rfl, e5 ys h⟩
theorem evi_zipS {β : Type} {en' : β → D} {x : Str} {ys : List β} {K : PySem.W.Frag} {M : Addr → Prop} {σ : L2.St} {H : Hp} {tA : TA} (h : EVA K M σ H tA [.im (.str x), .im (.lst (ys.map en'))]) (hasc : x.cps.all (· < 128) = true) : EVI K M σ H (iZipS K tA) GI (((signs x).zip ys).map (eP2 D.str en')) := fun M' H1 w s R k => h M' H1 w s _ fun vs H2 w2 s2 hv => by
  cases hv with
  | cons h1 h2 =>
    cases h2 with
    | cons h2 h3 =>
      cases h3
      cases (show _ = V.str x from h1)
      obtain ⟨b, us, rfl, f2, f3⟩ := h2
      refine ⟨x, b, us, rfl, hasc, SqL.of f2.1, k _ H2 w2 s2 ?_⟩
      have e : (((signs x).zip ys).map (eP2 D.str en')).length = min x.cps.size us.length := by rw [List.length_map, List.length_zip, signs_len, f3.len, List.length_map]
      refine (walk_zipS e).mono (fun H' g => SqL.of (g.choose_spec _ _ f2).1) fun i H' x' H'' hi g y => ?_
      obtain ⟨T, u1, u2, rfl, nT, rfl, q1, q2⟩ := y
      obtain ⟨p, hp, rfl⟩ := Option.map_eq_some_iff.mp q1
      obtain ⟨d', hd', hr'⟩ := f3.get q2
      rw [List.getElem?_map] at hd'
      obtain ⟨p', hp', rfl⟩ := Option.map_eq_some_iff.mp hd'
      refine ⟨Same.new nT, eP2 D.str en' (p, p'), by rw [List.getElem?_map, List.getElem?_zip_eq_some (z := (p, p')) |>.mpr ⟨hp, hp'⟩]; rfl, fun M2 w3 l => ⟨T, _, rfl, .inl ⟨upd_same, w3.free nT⟩, ⟨_, _, rfl, rfl, _, _, rfl, ?_, rfl⟩⟩⟩
      exact rD.mono (Fx.same (Same.new nT)) _ _ (rD.mono l _ _ hr')
end Lf

set_option Elab.async false
set_option linter.all false
set_option maxRecDepth 100000
set_option maxHeartbeats 4000000
/-! list.count of texts; == of options. -/
namespace Lf
open PySem PySem.Spec PyProof.Rows L2
theorem cntS {k : Str} : ∀ {ns : List Str} {us : List Value}, Vals (ns.map V.str) us → us.countP (eqU (.str k)) = ns.count k
  | [], _, h => by cases h; rfl
  | n :: ns, _, h => by
    cases h with
    | cons r h =>
      obtain ⟨t, rfl⟩ := id r
      have e : eqU (.str k) (.str n t) = (n == k) := eqU_of r rfl
      rw [List.countP_cons, List.count_cons, cntS h, e]
def rCntS (K : PySem.W.Frag) : V → List V → Hp → VK → Prop := fun x xs H Q => ∃ (p : Addr) (ns : List Str) (k : Str), x = .ref p ∧ xs = [.str k] ∧ SqL K H p (ns.map V.str) ∧ Q (.int (ns.count k : Nat)) H
theorem mt_lcountS {X : Cx} : MtR X "list.count" (rCntS X.K) := by
  intro pins s σ H x xs v us Q I rx rxs h
  obtain ⟨p, ns, k, rfl, rfl, hs, q⟩ := h
  cases rx
  obtain ⟨u, rfl, ru⟩ := rxs.one
  obtain ⟨its, rv, ⟨⟨cls, dd, data, sl⟩, n, ho, hc, hdn, hd⟩, hlen⟩ := I.list hs
  simp only at hc hd
  subst hc hd
  refine call_meets PySem.F.slot_list_count ⟨_, ho, rfl⟩ PySem.F.entry_list_count (PySem.F.args_list_count_2 _ _)
    (SeqAt.list_countAt p its.toArray n dd sl u (eqU (.str k))) ⟨ho, fun y hy => mem_eqAt ru rfl rv (flat_strs' ns) y (by simpa using hy), ?_⟩
  have ec : its.toArray.toList.countP (eqU (.str k)) = ns.count k := cntS rv
  refine ⟨.int (ns.count k : Nat), H, I.tok _, ⟨s.toks, ?_⟩, q⟩
  show Value.int ((its.toArray.toList.countP (eqU (.str k)) : Nat) : Int) s.toks = Value.int ((ns.count k : Nat) : Int) s.toks
  rw [ec]
theorem md_countS {K : PySem.W.Frag} {d : DV} {xs : List Str} {x : Str} (h : LsOf d (xs.map .str)) : MtD K (rCntS K) d [.im (.str x)] (.im (.int (xs.count x : Nat))) := fun M H w v vs hv hvs Q k => by
  obtain ⟨a, ws, rfl, e2, e3⟩ := h.get hv
  cases e3.strs
  cases hvs with
  | cons h1 h2 =>
    cases h2
    cases h1
    exact ⟨a, xs, x, rfl, rfl, SqL.of e2, k _ H w (Same.refl _) rfl⟩
theorem inj_OI : EqO (eO D.int) := fun x y => by
  cases x with
  | none =>
    cases y with
    | none => rfl
    | some j => show PyData.eqv (py .non) (py (.int j)) = _; simp [py, PyData.eqv]
  | some i =>
    cases y with
    | none => show PyData.eqv (py (.int i)) (py .non) = _; simp [py, PyData.eqv]
    | some j => show PyData.eqv (py (.int i)) (py (.int j)) = _; rw [inj_int]; simp
theorem shp_OI (x : Option Int) : Shp (eO D.int x) := by
  cases x with
  | none => exact ⟨rfl, Nat.zero_le _⟩
  | some i => exact ⟨rfl, Nat.zero_le _⟩
end Lf

set_option Elab.async false
set_option linter.all false
set_option maxRecDepth 100000
set_option maxHeartbeats 4000000
set_option pp.maxSteps 300
set_option pp.deepTerms false
namespace Toy
open PySem L2 Lf
def top (i : Nat) : Stmt := PySem.Challenge.pw_linkedfilters_k08_bounds_of_schemas.main.body.getD i (.Pass ⟨0, 0, 0, 0⟩)
abbrev s_l_bag : Stmt := top 19
abbrev s_l_take : Stmt := top 20
abbrev s_l_of : Stmt := top 21
abbrev s_l_refused : Stmt := top 22
abbrev s_l_fields : Stmt := top 23
abbrev s_l_product : Stmt := top 24
abbrev s_l_kinds_bound : Stmt := top 25
abbrev s_l_right : Stmt := top 26
abbrev s_law : Stmt := top 27
abbrev s_is_word : Stmt := top 10
abbrev s_path_above : Stmt := top 11
abbrev s_joined_path : Stmt := top 12
abbrev s_seen_from : Stmt := top 13
abbrev s_read_columns : Stmt := top 14
abbrev s_read_line : Stmt := top 15
abbrev s_Schema__init : Stmt := inClass (top 16) 0
abbrev s_Schema_admits : Stmt := inClass (top 16) 2
abbrev s_Schema_how_many : Stmt := inClass (top 16) 3
abbrev s_Schema__len : Stmt := inClass (top 16) 6
abbrev s_Schema__contains : Stmt := inClass (top 16) 7
abbrev s_Schema_heads : Stmt := inClass (top 16) 8
abbrev s_Schema_group : Stmt := inClass (top 16) 9
abbrev s_Schema_kinds : Stmt := inClass (top 16) 17
abbrev s_all_values : Stmt := top 17
abbrev s_BadSchema__init : Stmt := inClass (top 3) 0
abbrev s_BadHead__init : Stmt := inClass (top 4) 0
structure Ad where
  f_l_bag : Addr
  d_l_bag : FuncData
  f_l_take : Addr
  d_l_take : FuncData
  f_l_of : Addr
  d_l_of : FuncData
  f_l_refused : Addr
  d_l_refused : FuncData
  f_l_fields : Addr
  d_l_fields : FuncData
  f_l_product : Addr
  d_l_product : FuncData
  f_l_kinds_bound : Addr
  d_l_kinds_bound : FuncData
  f_l_right : Addr
  d_l_right : FuncData
  f_law : Addr
  d_law : FuncData
  f_is_word : Addr
  d_is_word : FuncData
  f_path_above : Addr
  d_path_above : FuncData
  f_joined_path : Addr
  d_joined_path : FuncData
  f_seen_from : Addr
  d_seen_from : FuncData
  f_read_columns : Addr
  d_read_columns : FuncData
  f_read_line : Addr
  d_read_line : FuncData
  f_Schema__init : Addr
  d_Schema__init : FuncData
  f_Schema_admits : Addr
  d_Schema_admits : FuncData
  f_Schema_how_many : Addr
  d_Schema_how_many : FuncData
  f_Schema__len : Addr
  d_Schema__len : FuncData
  f_Schema__contains : Addr
  d_Schema__contains : FuncData
  f_Schema_heads : Addr
  d_Schema_heads : FuncData
  f_Schema_group : Addr
  d_Schema_group : FuncData
  f_Schema_kinds : Addr
  d_Schema_kinds : FuncData
  f_all_values : Addr
  d_all_values : FuncData
  f_BadSchema__init : Addr
  d_BadSchema__init : FuncData
  f_BadHead__init : Addr
  d_BadHead__init : FuncData
  C_LinkedError : Addr
  C_BadSchema : Addr
  C_BadHead : Addr
  C_Schema : Addr
structure Txt (K : PySem.W.Frag) (mg : Str → Option Value) (a : Ad) : Prop where
  F_l_bag : Fun K "_law_bag" "_law_bag" s_l_bag a.f_l_bag a.d_l_bag
  k_l_bag : PySem.W.keepIn K (.ref a.f_l_bag) = true
  a_l_bag : Binds K a.d_l_bag ["_law_script", "_law_at"] []
  m_l_bag : mg "_law_bag" = some (.ref a.f_l_bag)
  F_l_take : Fun K "_law_take" "_law_take" s_l_take a.f_l_take a.d_l_take
  k_l_take : PySem.W.keepIn K (.ref a.f_l_take) = true
  a_l_take : Binds K a.d_l_take ["_law_bag_here", "_law_many"] []
  m_l_take : mg "_law_take" = some (.ref a.f_l_take)
  F_l_of : Fun K "_law_of" "_law_of" s_l_of a.f_l_of a.d_l_of
  k_l_of : PySem.W.keepIn K (.ref a.f_l_of) = true
  a_l_of : Binds K a.d_l_of ["_law_bag_here", "_law_some"] []
  m_l_of : mg "_law_of" = some (.ref a.f_l_of)
  F_l_refused : Fun K "_law_refused" "_law_refused" s_l_refused a.f_l_refused a.d_l_refused
  k_l_refused : PySem.W.keepIn K (.ref a.f_l_refused) = true
  a_l_refused : Binds K a.d_l_refused ["_law_text"] []
  m_l_refused : mg "_law_refused" = some (.ref a.f_l_refused)
  F_l_fields : Fun K "_law_fields" "_law_fields" s_l_fields a.f_l_fields a.d_l_fields
  k_l_fields : PySem.W.keepIn K (.ref a.f_l_fields) = true
  a_l_fields : Binds K a.d_l_fields ["_law_names", "_law_tops"] []
  m_l_fields : mg "_law_fields" = some (.ref a.f_l_fields)
  F_l_product : Fun K "_law_product" "_law_product" s_l_product a.f_l_product a.d_l_product
  k_l_product : PySem.W.keepIn K (.ref a.f_l_product) = true
  a_l_product : Binds K a.d_l_product ["_law_tops"] []
  m_l_product : mg "_law_product" = some (.ref a.f_l_product)
  F_l_kinds_bound : Fun K "_law_kinds_bound" "_law_kinds_bound" s_l_kinds_bound a.f_l_kinds_bound a.d_l_kinds_bound
  k_l_kinds_bound : PySem.W.keepIn K (.ref a.f_l_kinds_bound) = true
  a_l_kinds_bound : Binds K a.d_l_kinds_bound ["_law_bag_here", "_law_start"] []
  m_l_kinds_bound : mg "_law_kinds_bound" = some (.ref a.f_l_kinds_bound)
  F_l_right : Fun K "_law_right" "_law_right" s_l_right a.f_l_right a.d_l_right
  k_l_right : PySem.W.keepIn K (.ref a.f_l_right) = true
  a_l_right : Binds K a.d_l_right ["_law_bag_here"] []
  m_l_right : mg "_law_right" = some (.ref a.f_l_right)
  F_law : Fun K "law" "law" s_law a.f_law a.d_law
  k_law : PySem.W.keepIn K (.ref a.f_law) = true
  a_law : Binds K a.d_law ["_law_script"] []
  m_law : mg "law" = some (.ref a.f_law)
  F_is_word : Fun K "is_word" "is_word" s_is_word a.f_is_word a.d_is_word
  k_is_word : PySem.W.keepIn K (.ref a.f_is_word) = true
  a_is_word : Binds K a.d_is_word ["text"] []
  m_is_word : mg "is_word" = some (.ref a.f_is_word)
  F_path_above : Fun K "path_above" "path_above" s_path_above a.f_path_above a.d_path_above
  k_path_above : PySem.W.keepIn K (.ref a.f_path_above) = true
  a_path_above : Binds K a.d_path_above ["path"] []
  m_path_above : mg "path_above" = some (.ref a.f_path_above)
  F_joined_path : Fun K "joined_path" "joined_path" s_joined_path a.f_joined_path a.d_joined_path
  k_joined_path : PySem.W.keepIn K (.ref a.f_joined_path) = true
  a_joined_path : Binds K a.d_joined_path ["path", "name"] []
  m_joined_path : mg "joined_path" = some (.ref a.f_joined_path)
  F_seen_from : Fun K "seen_from" "seen_from" s_seen_from a.f_seen_from a.d_seen_from
  k_seen_from : PySem.W.keepIn K (.ref a.f_seen_from) = true
  a_seen_from : Binds K a.d_seen_from ["path", "longer"] []
  m_seen_from : mg "seen_from" = some (.ref a.f_seen_from)
  F_read_columns : Fun K "read_columns" "read_columns" s_read_columns a.f_read_columns a.d_read_columns
  k_read_columns : PySem.W.keepIn K (.ref a.f_read_columns) = true
  a_read_columns : Binds K a.d_read_columns ["words"] []
  m_read_columns : mg "read_columns" = some (.ref a.f_read_columns)
  F_read_line : Fun K "read_line" "read_line" s_read_line a.f_read_line a.d_read_line
  k_read_line : PySem.W.keepIn K (.ref a.f_read_line) = true
  a_read_line : Binds K a.d_read_line ["line", "is_first"] []
  m_read_line : mg "read_line" = some (.ref a.f_read_line)
  F_Schema__init : Fun K "__init__" "Schema.__init__" s_Schema__init a.f_Schema__init a.d_Schema__init
  k_Schema__init : PySem.W.keepIn K (.ref a.f_Schema__init) = true
  a_Schema__init : Binds K a.d_Schema__init ["self", "text"] []
  t_Schema__init : Meth K a.C_Schema "__init__" a.f_Schema__init
  f_Schema__init : PySem.W.findIn K (.ref a.C_Schema) "__init__" = some (some (.ref a.f_Schema__init))
  i_Schema__init : PySem.W.isFn K (.ref a.f_Schema__init) = true
  fi_Schema__init : PySem.W.fnIn K a.f_Schema__init = true
  F_Schema_admits : Fun K "admits" "Schema.admits" s_Schema_admits a.f_Schema_admits a.d_Schema_admits
  k_Schema_admits : PySem.W.keepIn K (.ref a.f_Schema_admits) = true
  a_Schema_admits : Binds K a.d_Schema_admits ["self", "path", "is_first"] []
  t_Schema_admits : Meth K a.C_Schema "admits" a.f_Schema_admits
  f_Schema_admits : PySem.W.findIn K (.ref a.C_Schema) "admits" = some (some (.ref a.f_Schema_admits))
  i_Schema_admits : PySem.W.isFn K (.ref a.f_Schema_admits) = true
  fi_Schema_admits : PySem.W.fnIn K a.f_Schema_admits = true
  F_Schema_how_many : Fun K "how_many" "Schema.how_many" s_Schema_how_many a.f_Schema_how_many a.d_Schema_how_many
  k_Schema_how_many : PySem.W.keepIn K (.ref a.f_Schema_how_many) = true
  a_Schema_how_many : Binds K a.d_Schema_how_many ["self", "path"] []
  t_Schema_how_many : Meth K a.C_Schema "how_many" a.f_Schema_how_many
  f_Schema_how_many : PySem.W.findIn K (.ref a.C_Schema) "how_many" = some (some (.ref a.f_Schema_how_many))
  i_Schema_how_many : PySem.W.isFn K (.ref a.f_Schema_how_many) = true
  fi_Schema_how_many : PySem.W.fnIn K a.f_Schema_how_many = true
  F_Schema__len : Fun K "__len__" "Schema.__len__" s_Schema__len a.f_Schema__len a.d_Schema__len
  k_Schema__len : PySem.W.keepIn K (.ref a.f_Schema__len) = true
  a_Schema__len : Binds K a.d_Schema__len ["self"] []
  t_Schema__len : Meth K a.C_Schema "__len__" a.f_Schema__len
  f_Schema__len : PySem.W.findIn K (.ref a.C_Schema) "__len__" = some (some (.ref a.f_Schema__len))
  i_Schema__len : PySem.W.isFn K (.ref a.f_Schema__len) = true
  fi_Schema__len : PySem.W.fnIn K a.f_Schema__len = true
  F_Schema__contains : Fun K "__contains__" "Schema.__contains__" s_Schema__contains a.f_Schema__contains a.d_Schema__contains
  k_Schema__contains : PySem.W.keepIn K (.ref a.f_Schema__contains) = true
  a_Schema__contains : Binds K a.d_Schema__contains ["self", "path"] []
  t_Schema__contains : Meth K a.C_Schema "__contains__" a.f_Schema__contains
  f_Schema__contains : PySem.W.findIn K (.ref a.C_Schema) "__contains__" = some (some (.ref a.f_Schema__contains))
  i_Schema__contains : PySem.W.isFn K (.ref a.f_Schema__contains) = true
  fi_Schema__contains : PySem.W.fnIn K a.f_Schema__contains = true
  F_Schema_heads : Fun K "heads" "Schema.heads" s_Schema_heads a.f_Schema_heads a.d_Schema_heads
  k_Schema_heads : PySem.W.keepIn K (.ref a.f_Schema_heads) = true
  a_Schema_heads : Binds K a.d_Schema_heads ["self"] []
  t_Schema_heads : Meth K a.C_Schema "heads" a.f_Schema_heads
  f_Schema_heads : PySem.W.findIn K (.ref a.C_Schema) "heads" = some (some (.ref a.f_Schema_heads))
  i_Schema_heads : PySem.W.isFn K (.ref a.f_Schema_heads) = true
  fi_Schema_heads : PySem.W.fnIn K a.f_Schema_heads = true
  F_Schema_group : Fun K "group" "Schema.group" s_Schema_group a.f_Schema_group a.d_Schema_group
  k_Schema_group : PySem.W.keepIn K (.ref a.f_Schema_group) = true
  a_Schema_group : Binds K a.d_Schema_group ["self", "path"] []
  t_Schema_group : Meth K a.C_Schema "group" a.f_Schema_group
  f_Schema_group : PySem.W.findIn K (.ref a.C_Schema) "group" = some (some (.ref a.f_Schema_group))
  i_Schema_group : PySem.W.isFn K (.ref a.f_Schema_group) = true
  fi_Schema_group : PySem.W.fnIn K a.f_Schema_group = true
  F_Schema_kinds : Fun K "kinds" "Schema.kinds" s_Schema_kinds a.f_Schema_kinds a.d_Schema_kinds
  k_Schema_kinds : PySem.W.keepIn K (.ref a.f_Schema_kinds) = true
  a_Schema_kinds : Binds K a.d_Schema_kinds ["self", "path"] []
  t_Schema_kinds : Meth K a.C_Schema "kinds" a.f_Schema_kinds
  f_Schema_kinds : PySem.W.findIn K (.ref a.C_Schema) "kinds" = some (some (.ref a.f_Schema_kinds))
  i_Schema_kinds : PySem.W.isFn K (.ref a.f_Schema_kinds) = true
  fi_Schema_kinds : PySem.W.fnIn K a.f_Schema_kinds = true
  F_all_values : Fun K "all_values" "all_values" s_all_values a.f_all_values a.d_all_values
  k_all_values : PySem.W.keepIn K (.ref a.f_all_values) = true
  a_all_values : Binds K a.d_all_values ["columns"] []
  m_all_values : mg "all_values" = some (.ref a.f_all_values)
  F_BadSchema__init : Fun K "__init__" "BadSchema.__init__" s_BadSchema__init a.f_BadSchema__init a.d_BadSchema__init
  k_BadSchema__init : PySem.W.keepIn K (.ref a.f_BadSchema__init) = true
  a_BadSchema__init : Binds K a.d_BadSchema__init ["self", "at"] []
  f_BadSchema__init : PySem.W.findIn K (.ref a.C_BadSchema) "__init__" = some (some (.ref a.f_BadSchema__init))
  ty_BadSchema__init : PySem.W.typeIn K (.ref a.f_BadSchema__init) = some (.type "function")
  F_BadHead__init : Fun K "__init__" "BadHead.__init__" s_BadHead__init a.f_BadHead__init a.d_BadHead__init
  k_BadHead__init : PySem.W.keepIn K (.ref a.f_BadHead__init) = true
  a_BadHead__init : Binds K a.d_BadHead__init ["self", "path"] []
  f_BadHead__init : PySem.W.findIn K (.ref a.C_BadHead) "__init__" = some (some (.ref a.f_BadHead__init))
  ty_BadHead__init : PySem.W.typeIn K (.ref a.f_BadHead__init) = some (.type "function")
  m_LinkedError : mg "LinkedError" = some (.ref a.C_LinkedError)
  m_BadSchema : mg "BadSchema" = some (.ref a.C_BadSchema)
  e_BadSchema : ErrC K a.C_BadSchema
  n_BadSchema_at : PySem.W.findIn K (.ref a.C_BadSchema) "at" = some none
  m_BadHead : mg "BadHead" = some (.ref a.C_BadHead)
  e_BadHead : ErrC K a.C_BadHead
  n_BadHead_path : PySem.W.findIn K (.ref a.C_BadHead) "path" = some none
  ct_Schema : ClsT K a.C_Schema
  m_Schema : mg "Schema" = some (.ref a.C_Schema)
  mk_Schema : Mk K a.C_Schema a.f_Schema__init
  nq_Schema : PySem.W.noSeq K a.C_Schema = true
  n_Schema_text : NoAttr K a.C_Schema "text"
  n_Schema_marks : NoAttr K a.C_Schema "marks"
  n_Schema_fields : NoAttr K a.C_Schema "fields"
  b_abs : mg "abs" = none
  b_int : mg "int" = none
  b_len : mg "len" = none
  b_range : mg "range" = none
  b_min : mg "min" = none
  b_max : mg "max" = none
  b_any : mg "any" = none
  b_all : mg "all" = none
  b_sorted : mg "sorted" = none
  b_tuple : mg "tuple" = none
  b_list : mg "list" = none
  b_isinstance : mg "isinstance" = none
  b_bool : mg "bool" = none
  b_str : mg "str" = none
  b_enumerate : mg "enumerate" = none
  b_zip : mg "zip" = none
  g_LETTERS : ∃ t, mg "LETTERS" = some (.str "abcdefghijklmnopqrstuvwxyz" t)
  g_MOST_LINES : ∃ t, mg "MOST_LINES" = some (.int 6 t)
  g_MOST_WORDS : ∃ t, mg "MOST_WORDS" = some (.int 3 t)
  g_MOST_KINDS : ∃ t, mg "MOST_KINDS" = some (.int 16 t)
theorem Txt.c_Schema {K : PySem.W.Frag} {mg : Str → Option Value} {a : Ad} (T : Txt K mg a) : Cls K a.C_Schema := T.ct_Schema.cl
theorem Txt.o_Schema {K : PySem.W.Frag} {mg : Str → Option Value} {a : Ad} (T : Txt K mg a) : PySem.W.mroIn K a.C_Schema (.type "object") = some true := T.ct_Schema.cm
theorem Txt.ne_Schema {K : PySem.W.Frag} {mg : Str → Option Value} {a : Ad} (T : Txt K mg a) : PySem.W.findIn K (.ref a.C_Schema) "__ne__" = some (some (.builtin "object.__ne__")) := T.ct_Schema.ne
section
variable {P : Program} {w : World} {K : PySem.W.Frag} {mg : Str → Option Value} {base : Heap} {a : Ad}


def spBag (K : PySem.W.Frag) : Sp := fun vs H Q _ => ∃ (s : Addr) (ns : List Int) (i : Nat), vs = [.ref s, .int i] ∧ SqL K H s (ns.map V.int) ∧ i < 64 ∧
  ∀ (b : Addr) (d m : Int) (H' : Hp), H b = none → Same H H' → H' b = some (.lst [.int d, .int m, .int 0]) → 0 ≤ d → 0 ≤ m → m < 12000000000000000000 → Q (.ref b) H'
theorem sc_l_bag : FnScope ["_law_script", "_law_at", "_law_cell", "_law_digits"] ["_law_script", "_law_at"] (defScope s_l_bag) := ⟨rfl, rfl, rfl, by decide +kernel, rfl, by decide +kernel, by decide +kernel⟩
theorem ok_l_bag (T : Txt K mg a) : FnOk P w K mg base CX0 1 a.f_l_bag a.d_l_bag ["_law_script", "_law_at"] (spBag K) := by
  refine T.F_l_bag.ok sc_l_bag (fun vs H Q E h => ?_) (fun cdv A outer s H vs Q E hr h => ?_)
  · obtain ⟨b, ns, i, rfl, _⟩ := h
    rfl
  · obtain ⟨b, ns, i, rfl, hS, hi, k⟩ := h
    refine ⟨_, (pss_cons (ps_set (i := 2) sc_l_bag.nd rfl (.inl rfl) (pe_ifExp (pt_cmpR op_lt (pv 1) (pe_callB call_len_seq (by rfl) T.b_len PySem.boot_len (pa_cons (pv 0) pa_nil)) (nomark _)) (pe_ix ix_list (pv 0) (pv 1) (fun _ _ => rfl)) pe_int))
      (pss_cons (ps_set (i := 3) sc_l_bag.nd rfl (.inl rfl) (pe_ifExp (pt_cmpR op_ge (pe_callB call_abs (by rfl) T.b_abs (by decide +kernel) (pa_cons (pv 2) pa_nil)) (pe_op op_pow pe_int pe_int) (nomark _)) (pe_callB call_abs (by rfl) T.b_abs (by decide +kernel) (pa_cons (pv 2) pa_nil)) pe_int))
      (pss_one (ps_ret (pe_lstS (pa_cons (pv 3) (pa_cons (pe_op op_add (pe_op op_add (pe_op op_mul (pe_op op_mod (pe_callTy call_int1 (by rfl) T.b_int (by decide +kernel) (pa_cons (pv 2) pa_nil)) pe_int) pe_int) (pe_op op_mul pe_int (pv 1))) pe_int) (pa_cons pe_int pa_nil)))))))), ?_⟩
    refine ⟨_, rfl, _, rfl, b, _, rfl, .inl hS, _, _, rfl, rfl, _, rfl, ?_⟩
    refine ite2 (fun h => ?_) (fun h => ?_)
    · have h1 : ((i : Nat) : Int) < ((ns.map V.int).length : Nat) := of_decide_eq_true h
      have h2 : i < ns.length := by rw [List.length_map] at h1; omega
      refine ⟨_, rfl, _, rfl, b, _, _, .int (ns[i]), rfl, rfl, hS, atI_nat (by rw [List.getElem?_map, List.getElem?_eq_getElem h2]; rfl), ?_⟩
      generalize ns[i] = c
      refine ⟨_, rfl, _, rfl, _, _, rfl, rfl, ⟨by decide, by decide, by decide⟩, _, _, rfl, rfl, _, rfl, ?_⟩
      refine ite2 (fun h => ?_) (fun h => ?_)
      · refine ⟨_, rfl, _, rfl, _, rfl, _, rfl, .inl ⟨_, rfl, _, _, rfl, rfl, (by show (0 : Int) < 2305843009213693951; decide), _, _, rfl, rfl, .inr ⟨by decide, by decide⟩, _, rfl, _, _, rfl, rfl, .inl ⟨by decide, by decide⟩, _, _, rfl, rfl, _, _, rfl, rfl, (by show 3 ≤ sizeLine; decide), fun p H' hp sm hp' => ?_⟩⟩
        have e1 := Int.emod_nonneg c (show (2305843009213693951 : Int) ≠ 0 by decide)
        have e2 := Int.emod_lt_of_pos c (show (0 : Int) < 2305843009213693951 by decide)
        exact k p _ _ H' hp sm hp' (by split <;> omega) (by omega) (by omega)
      · refine ⟨_, rfl, _, rfl, .inl ⟨_, rfl, _, _, rfl, rfl, (by show (0 : Int) < 2305843009213693951; decide), _, _, rfl, rfl, .inr ⟨by decide, by decide⟩, _, rfl, _, _, rfl, rfl, .inl ⟨by decide, by decide⟩, _, _, rfl, rfl, _, _, rfl, rfl, (by show 3 ≤ sizeLine; decide), fun p H' hp sm hp' => ?_⟩⟩
        have e1 := Int.emod_nonneg c (show (2305843009213693951 : Int) ≠ 0 by decide)
        have e2 := Int.emod_lt_of_pos c (show (0 : Int) < 2305843009213693951 by decide)
        exact k p _ _ H' hp sm hp' (by omega) (by omega) (by omega)
    · refine ⟨_, rfl, _, rfl, _, _, rfl, rfl, ⟨by decide, by decide, by decide⟩, _, _, rfl, rfl, _, rfl, ?_⟩
      refine ite2 (fun h => ?_) (fun h => ?_)
      · exact absurd (of_decide_eq_true h) (by decide)
      · refine ⟨_, rfl, _, rfl, .inl ⟨_, rfl, _, _, rfl, rfl, (by show (0 : Int) < 2305843009213693951; decide), _, _, rfl, rfl, .inr ⟨by decide, by decide⟩, _, rfl, _, _, rfl, rfl, .inl ⟨by decide, by decide⟩, _, _, rfl, rfl, _, _, rfl, rfl, (by show 3 ≤ sizeLine; decide), fun p H' hp sm hp' => ?_⟩⟩
        exact k p _ _ H' hp sm hp' (by omega) (by omega) (by omega)

def BagAt (H : Hp) (b : Addr) (n : Nat) : Prop := ∃ d m c : Int, H b = some (.lst [.int d, .int m, .int c]) ∧ 0 ≤ d ∧ 0 ≤ m ∧ m < 12000000000000000000 ∧ 0 ≤ c ∧ c ≤ n
def spDraw : Sp := fun vs H Q _ => ∃ (b : Addr) (n : Nat) (many : Int), vs = [.ref b, .int many] ∧ BagAt H b n ∧ n < 2 ^ 30 ∧ 0 < many ∧ many < 2 ^ 30 ∧
  ∀ (r : Int) (H' : Hp), 0 ≤ r → r < many → BagAt H' b (n + 1) → But b H H' → Q (.int r) H'
theorem sc_l_take : FnScope ["_law_bag_here", "_law_many", "_law_digit", "_law_mixed"] ["_law_bag_here", "_law_many"] (defScope s_l_take) := ⟨rfl, rfl, rfl, by decide +kernel, rfl, by decide +kernel, by decide +kernel⟩
theorem ok0_l_take (T : Txt K mg a) : FnOk P w K mg base CX0 1 a.f_l_take a.d_l_take ["_law_bag_here", "_law_many"] spDraw := by
  refine T.F_l_take.ok sc_l_take (fun vs H Q E h => ?_) (fun cdv A outer s H vs Q E hr h => ?_)
  · obtain ⟨b, n, i, rfl, _⟩ := h
    rfl
  · obtain ⟨b, n, many, rfl, ⟨d, m, c, hb, d0, m0, m1, c0, c1⟩, hn, p0, p1, k⟩ := h
    refine ⟨_, (pss_cons (ps_if (pt_cmpR op_gt (pe_ix ix_list (pv 0) pe_int (fun _ _ => rfl)) pe_int (nomark _)) (pss_cons (ps_set (i := 2) sc_l_take.nd rfl (.inl rfl) (pe_op op_mod (pe_callTy call_int1 (by rfl) T.b_int (by decide +kernel) (pa_cons (pe_ix ix_list (pv 0) pe_int (fun _ _ => rfl)) pa_nil)) (pv 1)))
      (pss_cons (ps_asg (pe_op op_fdiv (pe_ix ix_list (pv 0) pe_int (fun _ _ => rfl)) (pv 1)) (pg_sub (pv 0) pe_int set_list))
      (pss_one (ps_ret (pv 2))))) pss_nil)
      (pss_cons (ps_asg (pe_op op_add (pe_ix ix_list (pv 0) pe_int (fun _ _ => rfl)) pe_int) (pg_sub (pv 0) pe_int set_list))
      (pss_cons (ps_set (i := 3) sc_l_take.nd rfl (.inl rfl) (pe_op op_mod (pe_callTy call_int1 (by rfl) T.b_int (by decide +kernel) (pa_cons (pe_op op_pow (pe_op op_add (pe_ix ix_list (pv 0) pe_int (fun _ _ => rfl)) (pe_op op_mul pe_int (pe_ix ix_list (pv 0) pe_int (fun _ _ => rfl)))) pe_int) pa_nil)) pe_int))
      (pss_cons (ps_set (i := 3) sc_l_take.nd rfl (.inl rfl) (pe_op op_mod (pe_callTy call_int1 (by rfl) T.b_int (by decide +kernel) (pa_cons (pe_op op_pow (pe_op op_add (pv 3) (pe_op op_mul pe_int (pe_ix ix_list (pv 0) pe_int (fun _ _ => rfl)))) pe_int) pa_nil)) pe_int))
      (pss_one (ps_ret (pe_op op_mod (pe_callTy call_int1 (by rfl) T.b_int (by decide +kernel) (pa_cons (pe_op op_fdiv (pv 3) pe_int) pa_nil)) (pv 1)))))))), ?_⟩
    refine ⟨_, rfl, b, _, _, _, rfl, rfl, SqL.of hb, rfl, _, _, rfl, rfl, _, rfl, ?_⟩
    refine ite2 (fun h => ?_) (fun h => ?_)
    · have h1 : 0 < d := of_decide_eq_true h
      refine ⟨_, rfl, b, _, _, _, rfl, rfl, SqL.of hb, rfl, .inl ⟨_, rfl, _, rfl, _, _, rfl, rfl, p0, ?_⟩⟩
      refine ⟨_, rfl, b, _, _, _, rfl, rfl, SqL.of hb, rfl, _, rfl, _, _, rfl, rfl, ⟨p0, by omega⟩, ?_⟩
      refine ⟨_, rfl, b, _, _, _, rfl, rfl, hb, rfl, ?_⟩
      refine ⟨_, rfl, ?_⟩
      refine k _ _ (Int.emod_nonneg _ (by omega)) (Int.emod_lt_of_pos _ p0) ⟨d / many, m, c, upd_same, Int.ediv_nonneg d0 (by omega), m0, m1, c0, by omega⟩ But.upd
    · refine ⟨_, rfl, b, _, _, _, rfl, rfl, SqL.of hb, rfl, _, _, rfl, rfl, ?_⟩
      refine ⟨_, rfl, b, _, _, _, rfl, rfl, hb, rfl, ?_⟩
      have hb2 : (upd H b (.lst ([V.int d, V.int m, V.int c].set 2 (V.int (c + 1))))) b = some (.lst [.int d, .int m, .int (c + 1)]) := upd_same
      refine ⟨_, rfl, b, _, _, _, rfl, rfl, SqL.of hb2, rfl, _, rfl, b, _, _, _, rfl, rfl, SqL.of hb2, rfl, _, _, rfl, rfl, .inl ⟨by decide, by decide⟩, _, _, rfl, rfl, _, _, rfl, rfl, ⟨by decide, by decide, by omega⟩, .inl ⟨_, rfl, _, _, rfl, rfl, (by show (0 : Int) < 2305843009213693921; decide), ?_⟩⟩
      generalize e : (m + 1000081 * (c + 1)) ^ Int.toNat 3 % 2305843009213693921 = x
      have x0 : 0 ≤ x := by rw [← e]; exact Int.emod_nonneg _ (by decide)
      have x1 : x < 2305843009213693921 := by rw [← e]; exact Int.emod_lt_of_pos _ (by decide)
      refine ⟨_, rfl, _, rfl, b, _, _, _, rfl, rfl, SqL.of hb2, rfl, _, _, rfl, rfl, .inl ⟨by decide, by decide⟩, _, _, rfl, rfl, _, _, rfl, rfl, ⟨by decide, by decide, by omega⟩, .inl ⟨_, rfl, _, _, rfl, rfl, (by show (0 : Int) < 2305843009213693951; decide), ?_⟩⟩
      generalize e2 : (x + 32452867 * (c + 1)) ^ Int.toNat 2 % 2305843009213693951 = y
      refine ⟨_, rfl, _, _, rfl, rfl, ⟨by decide, by decide⟩, .inl ⟨_, rfl, _, rfl, _, _, rfl, rfl, p0, ?_⟩⟩
      exact k _ _ (Int.emod_nonneg _ (by omega)) (Int.emod_lt_of_pos _ p0) ⟨d, m, c + 1, hb2, d0, m0, m1, by omega, by omega⟩ But.upd
theorem sc_l_of : FnScope ["_law_bag_here", "_law_some"] ["_law_bag_here", "_law_some"] (defScope s_l_of) := ⟨rfl, rfl, rfl, by decide +kernel, rfl, by decide +kernel, by decide +kernel⟩

def SMB (H : Hp) (st : Addr) (Y : List Addr) (n : Nat) : Prop := Y = [st] ∧ BagAt H st n
theorem SMB.same {H H' : Hp} {st : Addr} {Y : List Addr} {n : Nat} (h : SMB H st Y n) (s : Same H H') : SMB H' st Y n := by
  obtain ⟨e, d, m, c, h, r⟩ := h
  exact ⟨e, d, m, c, s _ _ h, r⟩
theorem SMB.updL {H : Hp} {st L : Addr} {Y : List Addr} {n : Nat} {o : HO} (h : SMB H st Y n) (hL : L ∉ Y) : SMB (upd H L o) st Y n := by
  obtain ⟨rfl, d, m, c, h, r⟩ := h
  refine ⟨rfl, d, m, c, ?_, r⟩
  rw [upd_ne (fun e => hL (by rw [e]; exact List.mem_singleton.mpr rfl))]
  exact h
/-- a draw -/
def S_take (n : Nat) (many : Int) (P : Int → Nat → Prop) : Prop := n < 2 ^ 28 ∧ 0 < many ∧ many < 2 ^ 30 ∧ ∀ r, 0 ≤ r → r < many → P r (n + 1)
def sp_l_take (K : PySem.W.Frag) : Sp := spS SMB K (fun (x : Int) => [D.int x]) D.int (fun n (x : Int) P => S_take n x P)
theorem ok_l_take (T : Txt K mg a) : FnOk P w K mg base CX0 1 a.f_l_take a.d_l_take ["_law_bag_here", "_law_many"] (sp_l_take K) := by
  refine (ok0_l_take T).imp fun vs H Q E h => ?_
  obtain ⟨M, st, Y, n, x, us, Pp, rfl, w0, ys, ⟨rfl, hS⟩, hx, ⟨h1, h2, h3, h4⟩, kk⟩ := h
  obtain ⟨v, _, rfl, hv, rfl⟩ := (show rDs K (Fx M H) [D.int x] us from hx)
  cases (show v = .int x from hv)
  refine ⟨st, n, x, rfl, hS, by omega, h2, h3, fun r H' r0 r1 hS' b => ?_⟩
  have bu : Bu [st] H H' := fun q o e hq => b q o e (by simpa using hq)
  refine kk r _ (n + 1) H' (h4 r r0 r1) (fun q hq => ?_) bu ⟨rfl, hS'⟩ rfl
  by_cases e1 : q = st
  · obtain ⟨_, _, _, z, _⟩ := hS'; rw [e1, z]; exact fun z => nomatch z
  · cases e : H q with
    | none => exact absurd e (w0 q hq)
    | some o => rw [b q o e e1]; exact fun z => nomatch z
def sp_l_of (K : PySem.W.Frag) : Sp := spS SMB K (fun (x : D) => [x]) (fun (r : D) => r) (fun n (x : D) P => SofD n x P)
theorem ok_l_of (T : Txt K mg a) : FnOk P w K mg base CX0 2 a.f_l_of a.d_l_of ["_law_bag_here", "_law_some"] (sp_l_of K) := by
  refine T.F_l_of.ok sc_l_of (fun vs H Q E h => ?_) (fun cdv A outer s H vs Q E hr h => ?_)
  · obtain ⟨M, st, Y, n, x, us, Pp, rfl, w0, ys, hS, hx, _⟩ := h
    obtain ⟨v, _, rfl, hv, rfl⟩ := (show rDs K (Fx M H) [x] us from hx)
    rfl
  · obtain ⟨M, st, Y, n, x, us, Pp, rfl, w0, ys, hS, hx, ⟨ds, hq, hn, h0, h1, hall⟩, kk⟩ := h
    obtain ⟨v, _, rfl, hv, rfl⟩ := (show rDs K (Fx M H) [x] us from hx)
    have l0 : 0 < ds.length := List.length_pos_iff.mpr h0
    have lx : ∀ H2, Bu Y H H2 → Lx M M H H2 := fun H2 b q o h => ⟨b q o h.1 (fun hy => h.2 (ys q hy)), h.2⟩
    rcases hq with rfl | ⟨z, rfl, rfl, hz⟩
    · refine ⟨_, (pss_one (ps_ret (pe_ix ix_list (pv 1) (pe_call (ok_l_take T) (hr.mono (by decide)) rfl T.m_l_take T.k_l_take T.a_l_take .nil pass0 (pa_cons (pv 0) (pa_cons (pe_callB call_len_seq (by rfl) T.b_len PySem.boot_len (pa_cons (pv 1) pa_nil)) pa_nil))) (fun _ _ => rfl)))), ?_⟩
      obtain ⟨p, ws, rfl, e2, e3⟩ := (LsOf.im (ds := ds)).get (K := K) (M := M) (H := H) hv
      have lw := e3.len
      refine ⟨_, rfl, _, rfl, _, rfl, p, ws, rfl, .inl (SqL.of e2), ?_⟩
      refine ⟨M, st, Y, n, (ws.length : Int), _, fun r n' => ∃ (j : Nat) (d : D), r = j ∧ ds[j]? = some d ∧ Pp d n', rfl, w0, ys, hS, ⟨_, _, rfl, rfl, rfl⟩, ⟨hn, by omega, by omega, fun r r0 r1 => ?_⟩, fun r v3 n3 H3 ⟨j, d, ej, hd, hp⟩ w3 b3 hS3 hv3 => ?_⟩
      · have hj : r.toNat < ds.length := by omega
        exact ⟨r.toNat, ds[r.toNat], by omega, List.getElem?_eq_getElem hj, hall _ (List.getElem_mem hj)⟩
      · cases (show v3 = .int r from hv3)
        have hv4 : rV K M H3 (.im (.lst ds)) (V.ref p) := rD.mono (fun q o h => lx H3 b3 q o h) _ _ hv
        obtain ⟨p', ws', e4, e5, e6⟩ := (LsOf.im (ds := ds)).get (K := K) (M := M) (H := H3) hv4
        cases e4
        have hj : j < ws'.length := by rw [e6.len]; exact (List.getElem?_eq_some_iff.mp hd).1
        obtain ⟨d', hd', hr'⟩ := e6.get (List.getElem?_eq_getElem hj)
        rw [hd] at hd'
        cases hd'
        refine ⟨p, ws', r, ws'[j], rfl, rfl, SqL.of e5, by rw [ej]; exact atI_nat (List.getElem?_eq_getElem hj), ?_⟩
        exact kk d _ n3 H3 hp w3 b3 hS3 hr'
    · cases (show v = .str z from hv)
      refine ⟨_, (pss_one (ps_ret (pe_ix ix_str (pv 1) (pe_call (ok_l_take T) (hr.mono (by decide)) rfl T.m_l_take T.k_l_take T.a_l_take .nil pass0 (pa_cons (pv 0) (pa_cons (pe_callB call_len_str (by rfl) T.b_len PySem.boot_len (pa_cons (pv 1) pa_nil)) pa_nil))) (fun _ _ => rfl)))), ?_⟩
      have lz : ((signs z).map D.str).length = z.length := by rw [List.length_map, show (signs z).length = z.length by unfold signs; rw [List.length_map, Array.length_toList]; rfl]
      rw [lz] at h1 l0
      refine ⟨_, rfl, _, rfl, _, rfl, z, rfl, hz, ?_⟩
      refine ⟨M, st, Y, n, (z.length : Int), _, fun r n' => ∃ (j : Nat) (c : Nat), r = j ∧ z.cps.toList[j]? = some c ∧ Pp (.str ⟨#[c]⟩) n', rfl, w0, ys, hS, ⟨_, _, rfl, rfl, rfl⟩, ⟨hn, by omega, by omega, fun r r0 r1 => ?_⟩, fun r v3 n3 H3 ⟨j, c, ej, hc, hp⟩ w3 b3 hS3 hv3 => ?_⟩
      · have hj : r.toNat < z.cps.toList.length := by rw [show z.cps.toList.length = z.length from (TL.len_tl z).symm]; omega
        refine ⟨r.toNat, z.cps.toList[r.toNat], by omega, List.getElem?_eq_getElem hj, hall _ ?_⟩
        refine List.mem_map.mpr ⟨⟨#[z.cps.toList[r.toNat]]⟩, ?_, rfl⟩
        unfold signs
        exact List.mem_map.mpr ⟨_, List.getElem_mem hj, rfl⟩
      · cases (show v3 = .int r from hv3)
        refine ⟨z, r, c, rfl, rfl, hz, by rw [ej]; exact atI_nat hc, ?_⟩
        exact kk _ _ n3 H3 hp w3 b3 hS3 rfl
/-- the law's own list at a place makes a new state -/
theorem x_bag {H : Hp} {Q : VK} {E : XK} {l : Addr} {ns : List Int} {i : Int} (hl : SqL K H l (ns.map V.int)) (h0 : 0 ≤ i) (h1 : i < 64) (k : ∀ b H', H b = none → Same H H' → (∃ o, H' b = some o) → BagAt H' b 0 → Q (.ref b) H') : spBag K [.ref l, .int i] H Q E := by
  obtain ⟨j, rfl⟩ : ∃ j : Nat, i = j := ⟨i.toNat, by omega⟩
  exact ⟨l, ns, j, rfl, hl, by omega, fun b d m H' nb s hb d0 m0 m1 => k b H' nb s ⟨_, hb⟩ ⟨d, m, 0, hb, d0, m0, m1, Int.le_refl 0, by omega⟩⟩

end
end Toy

set_option Elab.async false
set_option linter.all false
set_option maxRecDepth 100000
set_option maxHeartbeats 4000000
set_option pp.maxSteps 300
set_option pp.deepTerms false
namespace Toy
open PySem L2 Lf
section
variable {P : Program} {w : World} {K : PySem.W.Frag} {mg : Str → Option Value} {base : Heap} {a : Ad}

theorem take_fold {α σ : Type} (f : σ → α → σ) (s0 : σ) (xs : List α) {i : Nat} {x : α} (h : xs[i]? = some x) : (xs.take (i + 1)).foldl f s0 = f ((xs.take i).foldl f s0) x := by
  rw [List.take_add_one, h, List.foldl_append]
  rfl

def isWord (t : Str) : Bool := ((decide (1 ≤ ((t : Str).length : Int))) && (decide (((t : Str).length : Int) ≤ 8))) && ((!decide (t = "self")) && (((signs t).map fun sign => (inC sign "abcdefghijklmnopqrstuvwxyz")).all id))
def pre_word (t : Str) : Prop := t.length ≤ sizeLine
theorem signs_len {t : Str} : (signs t).length = t.length := by unfold signs; rw [List.length_map, Array.length_toList]; rfl
theorem signs_one {t x : Str} (h : x ∈ signs t) : x.length = 1 := by
  unfold signs at h
  obtain ⟨c, _, rfl⟩ := List.mem_map.mp h
  rfl
def W_is_word (text : Str) (P : Bool → Prop) : Prop :=
  ((text : Str).length ≤ sizeLine) ∧ (((decide (1 ≤ ((text : Str).length : Int))) && (decide (((text : Str).length : Int) ≤ 8))) = true → (!decide (text = "self")) = true → (signs text).length ≤ sizeLine) ∧ (((decide (1 ≤ ((text : Str).length : Int))) && (decide (((text : Str).length : Int) ≤ 8))) = true → (!decide (text = "self")) = true → ∀ sign ∈ (signs text), (sign : Str).length = 1) ∧ P (((decide (1 ≤ ((text : Str).length : Int))) && (decide (((text : Str).length : Int) ≤ 8))) && ((!decide (text = "self")) && (((signs text).map fun (sign : Str) => (inC sign "abcdefghijklmnopqrstuvwxyz")).all id)))
theorem dW_is_word {t : Str} (hp : pre_word t) (P : Bool → Prop) (h : P (isWord t)) : W_is_word t P := ⟨hp, fun _ _ => by rw [signs_len]; exact hp, fun _ _ x hx => signs_one hx, h⟩
def sp_is_word (K : PySem.W.Frag) : Sp := spF K (fun (x : Str) => [D.str x]) D.bl (fun (x : Str) => pre_word x) (fun (x : Str) => isWord x)
theorem cd_is_word {E : XK} (text : Str) (hp : pre_word text) : CaD K (fun vs H Q => sp_is_word K vs H Q E) [.im (D.str text)] (.im (D.bl (isWord text))) := cd_fn (ens := (fun (x : Str) => [D.str x])) (er := D.bl) text hp
theorem sc_is_word : FnScope ["text", "sign"] ["text"] (defScope s_is_word) := ⟨rfl, rfl, rfl, by decide +kernel, rfl, by decide +kernel, by decide +kernel⟩
theorem ok_is_word (T : Txt K mg a) : FnOk P w K mg base CX0 1 a.f_is_word a.d_is_word ["text"] (sp_is_word K) := by
  refine T.F_is_word.ok sc_is_word (fun vs H Q E h => ?_) (fun cdv A outer s H vs Q E hr h => ?_)
  · obtain ⟨M0, x, w0, hx, _⟩ := h
    exact hx.len
  · obtain ⟨M0, x, w0, hx, hp, kq⟩ := h
    obtain ⟨text, ex⟩ : ∃ z, z = x := ⟨_, rfl⟩
    subst ex
    have hx : rDs K (Fx M0 H) [D.str text] vs := hx
    obtain ⟨v, _, rfl, h2, rfl⟩ := hx
    obtain ⟨Y, eY⟩ : ∃ Y : List Addr, Y = [] := ⟨_, rfl⟩
    have g : Gd M0 [] Y H H := Gd.start w0 (by rw [eY]; exact fun y h => nomatch h)
    cases (show v = (V.str text) from h2)
    obtain ⟨P, eP⟩ : ∃ P : Bool → Prop, P = fun r => r = isWord text := ⟨_, rfl⟩
    have kk : ∀ r v H2, P r → Wd M0 H2 → Same H H2 → rD K (Fx M0 H2) (D.bl r) v → Q v H2 := fun r v H2 e => by rw [eP] at e; rw [show r = isWord text from e]; exact kq v H2
    have hw : W_is_word text P := dW_is_word hp P (by rw [eP])
    unfold W_is_word at hw
    refine ⟨_, (pss_cons (ps_ret (pe_and (pe_chain op_le op_le pe_int (pe_callB call_len_str (by rfl) T.b_len PySem.boot_len (pa_cons (pv 0) pa_nil)) pe_int) (pe_and (pe_cmpR op_ne (pv 0) pe_str (nomark _)) (pe_one (pe_callB (cr_all rfl) (by rfl) T.b_all (by decide +kernel) (pa_cons (pe_lc (own := [("sign", 1)]) (g := gName 1) (tt := tYes) (te := (tOp rInS (tVar 1) (tC (.str "abcdefghijklmnopqrstuvwxyz")))) rfl sc_is_word.nd (pi_str (pv 0)) (blkOk_by (own := [("sign", 1)]) (N := ["text", "sign"]) (sc := defScope s_is_word) (by decide +kernel)) (fun _ _ _ _ _ => (pg_name (i := 1) sc_is_word.nd rfl (.inl rfl))) (fun _ _ _ _ _ => pts_nil) (fun _ _ _ _ _ => (pe_cmpR op_inS (pv 1) (pe_glob (v := .str "abcdefghijklmnopqrstuvwxyz") rfl T.g_LETTERS.choose_spec ⟨_, rfl⟩) rfl))) pa_nil))))))
      pss_nil), ?_⟩
    refine st_ret ?_
    obtain ⟨c, c2, c3, hw⟩ := hw
    refine EV.go (K := K) (d := (.im (D.bl (((decide (1 ≤ ((text : Str).length : Int))) && (decide (((text : Str).length : Int) ≤ 8))) && ((!decide (text = "self")) && (((signs text).map fun (sign : Str) => (inC sign "abcdefghijklmnopqrstuvwxyz")).all id)))))) (ev_and (ev_chain ev_int (ev_cb (eva_cons (ev_vs (i := 0) rfl) eva_nil) (cd_lenS c)) ev_int od_le (fun _ => od_le)) fun hb => (ev_and (ev_op (ev_vs (i := 0) rfl) ev_str od_neS) fun hb2 => (ev_cb (eva_cons (ev_lcmm (fd := fun (sign : Str) => (inC sign "abcdefghijklmnopqrstuvwxyz")) (en2 := D.bl) (xs := (signs text)) (en := D.str) (evi_str (z := text) (ev_vs (i := 0) rfl)) GI.ex gm_name (c2 hb hb2) (fun sign hy M H2 v2 wd ex h3 => ⟨rfl, rfl, (ev_op (ev_var (d := (.im (D.str sign))) (i := 1) rfl h3) ev_str (od_inC (c3 hb hb2 sign hy)))⟩)) eva_nil) (cd_all (bs := ((signs text).map fun (sign : Str) => (inC sign "abcdefghijklmnopqrstuvwxyz"))) LsOf.im)))) g.wd fun v3 H3 wd2 s2 h4 => ?_
    have g2 := g.same s2
    exact kk _ _ _ hw g2.w_end (Bu.nil g2.bu eY) (rV.lx Gd.lx_end h4)
def pre_above (p : Str) : Prop := p.length ≤ sizeLine
def W_path_above (path : Str) (P : Str → Prop) : Prop :=
  ((path : Str).length ≤ sizeLine) ∧ P ((Txt.rpartition path "_").1)
theorem dW_path_above {p : Str} (hp : pre_above p) (P : Str → Prop) (h : P (above p)) : W_path_above p P := ⟨hp, h⟩
def sp_path_above (K : PySem.W.Frag) : Sp := spF K (fun (x : Str) => [D.str x]) D.str (fun (x : Str) => pre_above x) (fun (x : Str) => above x)
theorem cd_path_above {E : XK} (path : Str) (hp : pre_above path) : CaD K (fun vs H Q => sp_path_above K vs H Q E) [.im (D.str path)] (.im (D.str (above path))) := cd_fn (ens := (fun (x : Str) => [D.str x])) (er := D.str) path hp
theorem sc_path_above : FnScope ["path"] ["path"] (defScope s_path_above) := ⟨rfl, rfl, rfl, by decide +kernel, rfl, by decide +kernel, by decide +kernel⟩
theorem ok_path_above (T : Txt K mg a) : FnOk P w K mg base CX0 1 a.f_path_above a.d_path_above ["path"] (sp_path_above K) := by
  refine T.F_path_above.ok sc_path_above (fun vs H Q E h => ?_) (fun cdv A outer s H vs Q E hr h => ?_)
  · obtain ⟨M0, x, w0, hx, _⟩ := h
    exact hx.len
  · obtain ⟨M0, x, w0, hx, hp, kq⟩ := h
    obtain ⟨path, ex⟩ : ∃ z, z = x := ⟨_, rfl⟩
    subst ex
    have hx : rDs K (Fx M0 H) [D.str path] vs := hx
    obtain ⟨v, _, rfl, h2, rfl⟩ := hx
    obtain ⟨Y, eY⟩ : ∃ Y : List Addr, Y = [] := ⟨_, rfl⟩
    have g : Gd M0 [] Y H H := Gd.start w0 (by rw [eY]; exact fun y h => nomatch h)
    cases (show v = (V.str path) from h2)
    obtain ⟨P, eP⟩ : ∃ P : Str → Prop, P = fun r => r = above path := ⟨_, rfl⟩
    have kk : ∀ r v H2, P r → Wd M0 H2 → Same H H2 → rD K (Fx M0 H2) (D.str r) v → Q v H2 := fun r v H2 e => by rw [eP] at e; rw [show r = above path from e]; exact kq v H2
    have hw : W_path_above path P := dW_path_above hp P (by rw [eP])
    unfold W_path_above at hw
    refine ⟨_, (pss_cons (ps_ret (pe_ix ix_tup (pe_rpart (pv 0) pe_str) pe_int (fun _ _ => rfl)))
      pss_nil), ?_⟩
    refine st_ret ?_
    obtain ⟨c2, hw⟩ := hw
    refine EV.go (K := K) (d := (.im (D.str ((Txt.rpartition path "_").1)))) (ev_op (ev_m1 (ev_vs (i := 0) rfl) ev_str (md_rpart rfl c2)) ev_int (od_ixT (es := [D.str ((Txt.rpartition path "_").1), D.str ((Txt.rpartition path "_").2.1), D.str ((Txt.rpartition path "_").2.2)]) rfl)) g.wd fun v2 H2 wd s2 h3 => ?_
    have g2 := g.same s2
    exact kk _ _ _ hw g2.w_end (Bu.nil g2.bu eY) (rV.lx Gd.lx_end h3)
def joinP (p n : Str) : Str := if (!decide (p = "")) = true then ((p ++ "_") ++ n) else n
def pre_join (p n : Str) : Prop := p.length + 1 + n.length ≤ sizeLine
theorem us_len : ("_" : Str).length = 1 := by decide +kernel
theorem len_cat (a b : Str) : (a ++ b).length = a.length + b.length := by rw [TL.len_tl, TL.tl_append, List.length_append, ← TL.len_tl, ← TL.len_tl]
def W_joined_path (path : Str) (name : Str) (P : Str → Prop) : Prop :=
  ((!decide (path = "")) = true → (path : Str).length + ("_" : Str).length ≤ sizeLine) ∧ ((!decide (path = "")) = true → ((path ++ "_") : Str).length + (name : Str).length ≤ sizeLine) ∧ P (if (!decide (path = "")) = true then ((path ++ "_") ++ name) else name)
theorem dW_joined_path {p n : Str} (hp : pre_join p n) (P : Str → Prop) (h : P (joinP p n)) : W_joined_path p n P := by
  unfold pre_join at hp
  exact ⟨fun _ => by rw [us_len]; omega, fun _ => by rw [len_cat, us_len]; omega, h⟩
def sp_joined_path (K : PySem.W.Frag) : Sp := spF K (fun (x : Str × Str) => [D.str x.1, D.str x.2]) D.str (fun (x : Str × Str) => pre_join x.1 x.2) (fun (x : Str × Str) => joinP x.1 x.2)
theorem cd_joined_path {E : XK} (path : Str) (name : Str) (hp : pre_join path name) : CaD K (fun vs H Q => sp_joined_path K vs H Q E) [.im (D.str path), .im (D.str name)] (.im (D.str (joinP path name))) := cd_fn (ens := (fun (x : Str × Str) => [D.str x.1, D.str x.2])) (er := D.str) (path, name) hp
theorem sc_joined_path : FnScope ["path", "name"] ["path", "name"] (defScope s_joined_path) := ⟨rfl, rfl, rfl, by decide +kernel, rfl, by decide +kernel, by decide +kernel⟩
theorem ok_joined_path (T : Txt K mg a) : FnOk P w K mg base CX0 1 a.f_joined_path a.d_joined_path ["path", "name"] (sp_joined_path K) := by
  refine T.F_joined_path.ok sc_joined_path (fun vs H Q E h => ?_) (fun cdv A outer s H vs Q E hr h => ?_)
  · obtain ⟨M0, x, w0, hx, _⟩ := h
    exact hx.len
  · obtain ⟨M0, x, w0, hx, hp, kq⟩ := h
    obtain ⟨path, name⟩ := x
    have hx : rDs K (Fx M0 H) [D.str path, D.str name] vs := hx
    obtain ⟨v2, _, rfl, h3, v, _, rfl, h2, rfl⟩ := hx
    obtain ⟨Y, eY⟩ : ∃ Y : List Addr, Y = [] := ⟨_, rfl⟩
    have g : Gd M0 [] Y H H := Gd.start w0 (by rw [eY]; exact fun y h => nomatch h)
    cases (show v2 = (V.str path) from h3)
    cases (show v = (V.str name) from h2)
    obtain ⟨P, eP⟩ : ∃ P : Str → Prop, P = fun r => r = joinP path name := ⟨_, rfl⟩
    have kk : ∀ r v H2, P r → Wd M0 H2 → Same H H2 → rD K (Fx M0 H2) (D.str r) v → Q v H2 := fun r v H2 e => by rw [eP] at e; rw [show r = joinP path name from e]; exact kq v H2
    have hw : W_joined_path path name P := dW_joined_path hp P (by rw [eP])
    unfold W_joined_path at hw
    refine ⟨_, (pss_cons (ps_ret (pe_ifExp (pt_cmpR op_ne (pv 0) pe_str (nomark _)) (pe_op op_add_str (pe_op op_add_str (pv 0) pe_str) (pv 1)) (pv 1)))
      pss_nil), ?_⟩
    refine st_ret ?_
    obtain ⟨c, c2, hw⟩ := hw
    refine EV.go (K := K) (d := (.im (D.str (if (!decide (path = "")) = true then ((path ++ "_") ++ name) else name)))) (ev_if (en := fun z => .im (D.str z)) (x := ((path ++ "_") ++ name)) (y := name) (evt_test (K := K) (ev_op (ev_vs (i := 0) rfl) ev_str od_neS)) (fun hb => (ev_op (ev_op (ev_vs (i := 0) rfl) ev_str (od_addS (c hb))) (ev_vs (i := 1) rfl) (od_addS (c2 hb)))) fun hb2 => (ev_vs (i := 1) rfl)) g.wd fun v3 H2 wd s2 h4 => ?_
    have g2 := g.same s2
    exact kk _ _ _ hw g2.w_end (Bu.nil g2.bu eY) (rV.lx Gd.lx_end h4)
def seenF (p l : Str) : Str := if (!decide (p = "")) = true then (cutS l (some (((p : Str).length : Int) + 1)) none) else l
def pre_seenF (p l : Str) : Prop := p.length ≤ sizeLine ∧ l.length ≤ sizeLine
def W_seen_from (path : Str) (longer : Str) (P : Str → Prop) : Prop :=
  ((!decide (path = "")) = true → (path : Str).length ≤ sizeLine) ∧ ((!decide (path = "")) = true → (longer : Str).length ≤ sizeLine) ∧ P (if (!decide (path = "")) = true then (cutS longer (some (((path : Str).length : Int) + 1)) none) else longer)
theorem dW_seen_from {p l : Str} (hp : pre_seenF p l) (P : Str → Prop) (h : P (seenF p l)) : W_seen_from p l P := ⟨fun _ => hp.1, fun _ => hp.2, h⟩
def sp_seen_from (K : PySem.W.Frag) : Sp := spF K (fun (x : Str × Str) => [D.str x.1, D.str x.2]) D.str (fun (x : Str × Str) => pre_seenF x.1 x.2) (fun (x : Str × Str) => seenF x.1 x.2)
theorem cd_seen_from {E : XK} (path : Str) (longer : Str) (hp : pre_seenF path longer) : CaD K (fun vs H Q => sp_seen_from K vs H Q E) [.im (D.str path), .im (D.str longer)] (.im (D.str (seenF path longer))) := cd_fn (ens := (fun (x : Str × Str) => [D.str x.1, D.str x.2])) (er := D.str) (path, longer) hp
theorem sc_seen_from : FnScope ["path", "longer"] ["path", "longer"] (defScope s_seen_from) := ⟨rfl, rfl, rfl, by decide +kernel, rfl, by decide +kernel, by decide +kernel⟩
theorem ok_seen_from (T : Txt K mg a) : FnOk P w K mg base CX0 1 a.f_seen_from a.d_seen_from ["path", "longer"] (sp_seen_from K) := by
  refine T.F_seen_from.ok sc_seen_from (fun vs H Q E h => ?_) (fun cdv A outer s H vs Q E hr h => ?_)
  · obtain ⟨M0, x, w0, hx, _⟩ := h
    exact hx.len
  · obtain ⟨M0, x, w0, hx, hp, kq⟩ := h
    obtain ⟨path, longer⟩ := x
    have hx : rDs K (Fx M0 H) [D.str path, D.str longer] vs := hx
    obtain ⟨v2, _, rfl, h3, v, _, rfl, h2, rfl⟩ := hx
    obtain ⟨Y, eY⟩ : ∃ Y : List Addr, Y = [] := ⟨_, rfl⟩
    have g : Gd M0 [] Y H H := Gd.start w0 (by rw [eY]; exact fun y h => nomatch h)
    cases (show v2 = (V.str path) from h3)
    cases (show v = (V.str longer) from h2)
    obtain ⟨P, eP⟩ : ∃ P : Str → Prop, P = fun r => r = seenF path longer := ⟨_, rfl⟩
    have kk : ∀ r v H2, P r → Wd M0 H2 → Same H H2 → rD K (Fx M0 H2) (D.str r) v → Q v H2 := fun r v H2 e => by rw [eP] at e; rw [show r = seenF path longer from e]; exact kq v H2
    have hw : W_seen_from path longer P := dW_seen_from hp P (by rw [eP])
    unfold W_seen_from at hw
    refine ⟨_, (pss_cons (ps_ret (pe_ifExp (pt_cmpR op_ne (pv 0) pe_str (nomark _)) (pe_slice sl_str (pv 1) (po_some (pe_op op_add (pe_callB call_len_str (by rfl) T.b_len PySem.boot_len (pa_cons (pv 0) pa_nil)) pe_int)) po_none) (pv 1)))
      pss_nil), ?_⟩
    refine st_ret ?_
    obtain ⟨c, c2, hw⟩ := hw
    refine EV.go (K := K) (d := (.im (D.str (if (!decide (path = "")) = true then (cutS longer (some (((path : Str).length : Int) + 1)) none) else longer)))) (ev_if (en := fun z => .im (D.str z)) (x := (cutS longer (some (((path : Str).length : Int) + 1)) none)) (y := longer) (evt_test (K := K) (ev_op (ev_vs (i := 0) rfl) ev_str od_neS)) (fun hb => (ev_slS (c2 hb) (ev_vs (i := 1) rfl) (evo_some (K := K) (ev_op (ev_cb (eva_cons (ev_vs (i := 0) rfl) eva_nil) (cd_lenS (c hb))) ev_int od_add)) evo_none)) fun hb2 => (ev_vs (i := 1) rfl)) g.wd fun v3 H2 wd s2 h4 => ?_
    have g2 := g.same s2
    exact kk _ _ _ hw g2.w_end (Bu.nil g2.bu eY) (rV.lx Gd.lx_end h4)

end
end Toy

set_option Elab.async false
set_option linter.all false
set_option maxRecDepth 100000
set_option maxHeartbeats 4000000
set_option pp.maxSteps 300
set_option pp.deepTerms false
namespace Toy
open PySem L2 Lf
section
variable {P : Program} {w : World} {K : PySem.W.Frag} {mg : Str → Option Value} {base : Heap} {a : Ad}

theorem first_split {s : Nat} : ∀ {l : List Nat}, s ∈ l → ∃ a b, l = a ++ s :: b ∧ s ∉ a
  | [], h => by cases h
  | x :: l, h => by
    by_cases e : x = s
    · exact ⟨[], l, by rw [e]; rfl, fun z => nomatch z⟩
    · rcases List.mem_cons.mp h with h | h
      · exact absurd h.symm e
      · obtain ⟨a, b, h1, h2⟩ := first_split h
        exact ⟨x :: a, b, by rw [h1]; rfl, fun z => (List.mem_cons.mp z).elim (fun z => e z.symm) h2⟩
theorem eq_sign : TL.tl "=" = 61 :: [] := by decide +kernel
theorem part_len (w : Str) : (Txt.partition w "=").1.length ≤ w.length ∧ (Txt.partition w "=").2.2.length ≤ w.length := by
  by_cases h : 61 ∈ TL.tl w
  · obtain ⟨a, b, h1, h2⟩ := first_split h
    have e : w = (⟨a.toArray⟩ : Str) ++ "=" ++ (⟨b.toArray⟩ : Str) := by
      apply TL.ext_tl
      rw [TL.tl_append, TL.tl_append, eq_sign, h1]
      simp [TL.tl]
    rw [e, TL.partition_app eq_sign (by simpa [TL.tl] using h2)]
    simp only [len_cat]
    omega
  · rw [TL.partition_none eq_sign h]
    exact ⟨Nat.le_refl _, Nat.zero_le _⟩
def colBad (f : List (Str × Int)) (w : Str) : Bool := ((!(isWord (Txt.partition w "=").1)) || ((!decide ((Txt.partition w "=").2.1 = "=")) || ((!decide ((Txt.partition w "=").2.2 ∈ (["1", "2", "3"] : (List Str)))) || (decide ((Txt.partition w "=").1 ∈ (f.map fun z => z.1))))))
def colStep (acc : Option (List (Str × Int))) (w : Str) : Option (List (Str × Int)) := match acc with
  | none => none
  | some f => if colBad f w = true then none else some (f ++ [((Txt.partition w "=").1, intOf (Txt.partition w "=").2.2)])
def colEnd (acc : Option (List (Str × Int))) : Option (List (Str × Int)) := match acc with
  | none => none
  | some found => if ((decide (1 ≤ (found.length : Int))) && (decide ((found.length : Int) ≤ 2))) = true then (some found) else none
def readCols (ws : List Str) : Option (List (Str × Int)) := colEnd (ws.foldl colStep (some []))
def pre_rcols (ws : List Str) : Prop := ws.length ≤ 100000 ∧ ∀ w ∈ ws, w.length ≤ 100000
theorem colStep_none (ws : List Str) : ws.foldl colStep none = none := by
  induction ws with
  | nil => rfl
  | cons w ws ih => exact ih
theorem colFold_none {ws : List Str} {i : Nat} {w : Str} (h : ws[i]? = some w) (e : (ws.take (i + 1)).foldl colStep (some []) = none) : readCols ws = none := by
  unfold readCols
  rw [← List.take_append_drop (i + 1) ws, List.foldl_append, e, colStep_none]
  rfl
theorem colStep_yes {f : List (Str × Int)} {w : Str} (c : colBad f w = true) : colStep (some f) w = none := by show (if colBad f w = true then _ else _) = _; rw [if_pos c]
theorem colStep_no {f : List (Str × Int)} {w : Str} (c : ¬ colBad f w = true) : colStep (some f) w = some (f ++ [((Txt.partition w "=").1, intOf (Txt.partition w "=").2.2)]) := by show (if colBad f w = true then _ else _) = _; rw [if_neg c]
theorem colFold_len : ∀ {ws : List Str} {acc : List (Str × Int)} {f : List (Str × Int)}, ws.foldl colStep (some acc) = some f → f.length = acc.length + ws.length
  | [], acc, f, h => by cases h; rfl
  | w :: ws, acc, f, h => by
    rw [List.foldl_cons] at h
    by_cases c : colBad acc w = true
    · rw [colStep_yes c, colStep_none] at h
      cases h
    · rw [colStep_no c] at h
      have := colFold_len h
      rw [this, List.length_append, List.length_cons]
      simp
      omega
theorem tops_int {t : Str} (h : t ∈ (["1", "2", "3"] : List Str)) : (PySem.intText? t).isSome = true ∧ t.length ≤ 640 := by
  simp only [List.mem_cons, List.not_mem_nil, or_false] at h
  rcases h with rfl | rfl | rfl <;> decide +kernel
def W_read_columns_b1 (found : (List (Str × Int))) (word : Str) (P : (Option (List (Str × Int))) → Prop) (nx : (List (Str × Int)) → Prop) : Prop :=
  ((word : Str).length ≤ sizeLine) ∧ ∀ d : (Str × Str × Str), d = (Txt.partition word "=") → ∀ name : Str, name = d.1 → ∀ sign : Str, sign = d.2.1 → ∀ top : Str, top = d.2.2 → (pre_word name) ∧ ((!(isWord name)) = false → (!decide (sign = "=")) = false → (!decide (top ∈ (["1", "2", "3"] : (List Str)))) = false → found.length ≤ sizeLine) ∧ (if ((!(isWord name)) || ((!decide (sign = "=")) || ((!decide (top ∈ (["1", "2", "3"] : (List Str)))) || (decide (name ∈ (found.map fun (z : (Str × Int)) => z.1)))))) = true then (P none) else (((PySem.intText? top).isSome = true) ∧ ((top : Str).length ≤ 640) ∧ ∀ d2 : (Str × Int), d2 = (name, (intOf top)) → (found.length < sizeLine) ∧ ∀ found2 : (List (Str × Int)), found2 = (found ++ [d2]) → nx found2))
def W_read_columns_k1 (found : (List (Str × Int))) (P : (Option (List (Str × Int))) → Prop) : Prop :=
  P (if ((decide (1 ≤ (found.length : Int))) && (decide ((found.length : Int) ≤ 2))) = true then (some found) else none)
def W_read_columns (words : (List Str)) (P : (Option (List (Str × Int))) → Prop) : Prop :=
  ∃ Inv : Nat → (List (Str × Int)) → Prop, Inv 0 ([] : (List (Str × Int))) ∧ (∀ (i : Nat) (word : Str) (found : (List (Str × Int))), words[i]? = some word → Inv i found → W_read_columns_b1 found word P (Inv (i + 1))) ∧ (∀ (found : (List (Str × Int))), Inv words.length found → W_read_columns_k1 found P)
theorem dW_read_columns {ws : List Str} (hp : pre_rcols ws) (P : Option (List (Str × Int)) → Prop) (h : P (readCols ws)) : W_read_columns ws P := by
  refine ⟨fun i f => (ws.take i).foldl colStep (some []) = some f, rfl, fun i w f hw hf => ?_, fun f hf => ?_⟩
  · have hm := List.mem_of_getElem? hw
    have hl := hp.2 w hm
    have pl := part_len w
    have fl := colFold_len hf
    have il : i < ws.length := (List.getElem?_eq_some_iff.mp hw).1
    rw [List.length_take] at fl
    simp only [List.length_nil] at fl
    have fs : (ws.take (i + 1)).foldl colStep (some []) = colStep (some f) w := by rw [take_fold _ _ _ hw, hf]
    refine ⟨sz_of hl, fun d hd n hn s hs t ht => ?_⟩
    subst hd hn hs ht
    refine ⟨sz_of (by omega), fun _ _ _ => sz_of (by have := hp.1; omega), ?_⟩
    show if colBad f w = true then _ else _
    by_cases c : colBad f w = true
    · rw [if_pos c]
      have : (ws.take (i + 1)).foldl colStep (some []) = none := by rw [fs, colStep_yes c]
      rw [colFold_none hw this] at h
      exact h
    · rw [if_neg c]
      have ct : (Txt.partition w "=").2.2 ∈ (["1", "2", "3"] : List Str) := by
        unfold colBad at c
        simp only [Bool.or_eq_true, not_or] at c
        by_cases q : (Txt.partition w "=").2.2 ∈ (["1", "2", "3"] : List Str)
        · exact q
        · exact absurd (by rw [decide_eq_false q]; rfl) c.2.2.1
      refine ⟨(tops_int ct).1, (tops_int ct).2, fun d2 hd2 => ⟨sz_lt (by have := hp.1; omega), fun f2 hf2 => ?_⟩⟩
      show (ws.take (i + 1)).foldl colStep (some []) = some f2
      rw [fs, hf2, hd2, colStep_no c]
  · have e : readCols ws = colEnd (some f) := by
      unfold readCols
      rw [← (show _ = some f from hf), List.take_length]
    rw [e] at h
    exact h
def sp_read_columns (K : PySem.W.Frag) : Sp := spF K (fun (x : (List Str)) => [(eL D.str) x]) (eO (eL (eP2 D.str D.int))) (fun (x : (List Str)) => pre_rcols x) (fun (x : (List Str)) => readCols x)
theorem cd_read_columns {E : XK} (words : (List Str)) (hp : pre_rcols words) : CaD K (fun vs H Q => sp_read_columns K vs H Q E) [.im ((eL D.str) words)] (.im ((eO (eL (eP2 D.str D.int))) (readCols words))) := cd_fn (ens := (fun (x : (List Str)) => [(eL D.str) x])) (er := (eO (eL (eP2 D.str D.int)))) words hp
theorem sc_read_columns : FnScope ["words", "found", "word", "name", "sign", "top", "other", "many"] ["words"] (defScope s_read_columns) := ⟨rfl, rfl, rfl, by decide +kernel, rfl, by decide +kernel, by decide +kernel⟩
theorem ok_read_columns (T : Txt K mg a) : FnOk P w K mg base CX0 2 a.f_read_columns a.d_read_columns ["words"] (sp_read_columns K) := by
  refine T.F_read_columns.ok sc_read_columns (fun vs H Q E h => ?_) (fun cdv A outer s H vs Q E hr h => ?_)
  · obtain ⟨M0, x, w0, hx, _⟩ := h
    exact hx.len
  · obtain ⟨M0, x, w0, hx, hp, kq⟩ := h
    obtain ⟨words, ex⟩ : ∃ z, z = x := ⟨_, rfl⟩
    subst ex
    have hx : rDs K (Fx M0 H) [(eL D.str) words] vs := hx
    obtain ⟨v, _, rfl, h2, rfl⟩ := hx
    obtain ⟨Y, eY⟩ : ∃ Y : List Addr, Y = [] := ⟨_, rfl⟩
    have g : Gd M0 [] Y H H := Gd.start w0 (by rw [eY]; exact fun y h => nomatch h)
    have h2 : rV K (mxM M0 []) H (.im ((eL D.str) words)) v := rV.lx Gd.lx0 (show rV K M0 H (.im ((eL D.str) words)) v from h2)
    obtain ⟨P, eP⟩ : ∃ P : (Option (List (Str × Int))) → Prop, P = fun r => r = readCols words := ⟨_, rfl⟩
    have kk : ∀ r v H2, P r → Wd M0 H2 → Same H H2 → rD K (Fx M0 H2) ((eO (eL (eP2 D.str D.int))) r) v → Q v H2 := fun r v H2 e => by rw [eP] at e; rw [show r = readCols words from e]; exact kq v H2
    have hw : W_read_columns words P := dW_read_columns hp P (by rw [eP])
    unfold W_read_columns at hw
    refine ⟨_, (pss_cons (ps_set (i := 1) sc_read_columns.nd rfl (.inl rfl) (pe_lstS pa_nil))
      (pss_cons (ps_for PassesOwn.never rfl (pi_list (pv 0)) (pg_name (i := 2) sc_read_columns.nd rfl (.inl rfl))
      (pss_cons (ps_asg (pe_partition (pv 2) pe_str) (pg_tup rfl (pgs_cons (pg_name (i := 3) sc_read_columns.nd rfl (.inl rfl)) (pgs_cons (pg_name (i := 4) sc_read_columns.nd rfl (.inl rfl)) (pgs_cons (pg_name (i := 5) sc_read_columns.nd rfl (.inl rfl)) pgs_nil)))))
      (pss_cons (ps_if (PW.pt (pw_or (pt_not (pt_val (pe_call (ok_is_word T) (hr.mono (by decide)) rfl T.m_is_word T.k_is_word T.a_is_word .nil pass0 (pa_cons (pv 3) pa_nil)))) (pw_or (pt_cmpR op_ne (pv 4) pe_str (nomark _)) (pw_or (pt_cmpR op_notIn_seq (pv 5) (pe_tupS (pa_cons pe_str (pa_cons pe_str (pa_cons pe_str pa_nil)))) rfl) (pw_or1 (pt_cmpR op_in_seq (pv 3) (pe_lc (own := [("other", 6), ("many", 7)]) (g := gTup K 2 (gCons (gName 6) (gCons (gName 7) gNil))) (tt := tYes) (te := (tVar 6)) rfl sc_read_columns.nd (pi_list (pv 1)) (blkOk_by (own := [("other", 6), ("many", 7)]) (N := ["words", "found", "word", "name", "sign", "top", "other", "many"]) (sc := defScope s_read_columns) (by decide +kernel)) (fun _ _ _ _ _ => (pg_tup rfl (pgs_cons (pg_name (i := 6) sc_read_columns.nd rfl (.inl rfl)) (pgs_cons (pg_name (i := 7) sc_read_columns.nd rfl (.inl rfl)) pgs_nil)))) (fun _ _ _ _ _ => pts_nil) (fun _ _ _ _ _ => (pv 6))) rfl)))))) (pss_cons (ps_ret pe_non)
      pss_nil) pss_nil)
      (pss_cons (ps_expr (pe_bm PySem.F.plainAttrs_list PySem.F.slot_list_append PySem.F.type_list_append mt_append (pv 1) (pa_cons (pe_tupS (pa_cons (pv 3) (pa_cons (pe_callTy call_int_str (by rfl) T.b_int (by decide +kernel) (pa_cons (pv 5) pa_nil)) pa_nil))) pa_nil)))
      pss_nil))))
      (pss_cons (ps_ret (pe_ifExp (pt_chain op_le op_le pe_int (pe_callB call_len_seq (by rfl) T.b_len PySem.boot_len (pa_cons (pv 1) pa_nil)) pe_int) (pv 1) pe_non))
      pss_nil))), ?_⟩
    refine st_set ?_
    refine EVN.go (K := K) (evn_lst (ds := []) eva_nil (Nat.le_of_ble_eq_true rfl)) g.wd fun p H2 H3 wd s2 np s3 vs2 hp2 hv => ?_
    have g2 := g.same s2
    have ex := Gd.ex_new (M0 := M0) (Ls := []) s3 np
    have g3 := g2.new s3 np hp2
    have h3 : rV K (mxM M0 [p]) H3 (.mu p (List.map (eP2 D.str D.int) ([] : (List (Str × Int))))) (V.ref p) := ⟨rfl, vs2, hp2, rDs.mono ex.lx _ _ hv⟩
    refine st_for ?_
    have h4 : rV K (mxM M0 [p]) H3 (.im ((eL D.str) words)) v := ((h2.same s2).ex ex)
    refine EVI.gom (K := K) (en := D.str) (xs := words) (evi_list (es := List.map D.str words) (ev_var (d := (.im ((eL D.str) words))) (i := 0) rfl h4)) g3.wd fun J H4 wd2 s4 wk => ?_
    have g4 := g3.same s4
    have h5 := rV.same s4 h3
    obtain ⟨Inv, hI, hI2, hI3⟩ := hw
    refine st_forit wk (fun i σ' H' => ∃ (found : (List (Str × Int))) (o : Option V) (o2 : Option V) (o3 : Option V) (o4 : Option V), σ' = [some v, some (V.ref p), o, o2, o3, o4, none, none] ∧ Gd M0 [p] Y H H' ∧ Lx (mxM M0 [p]) (mxM M0 [p]) H4 H' ∧ rV K (mxM M0 [p]) H' (.mu p (List.map (eP2 D.str D.int) found)) (V.ref p) ∧ Inv i found) ⟨([] : (List (Str × Int))), _, _, _, _, rfl, g4, Lx.refl, h5, hI⟩ (fun i σ' H' _ ⟨_, _, _, _, _, _, _, hl, _⟩ => ⟨_, hl⟩) ?_ ?_
    · rintro i x2 σ' H5 H6 hi ⟨found, o, o2, o3, o4, rfl, g5, l, h6, hI4⟩ yd
      obtain ⟨word, hy, s5, hr2⟩ := yd_map yd
      have hw := hI2 i word  found hy hI4
      have hr2 := hr2 _ g5.wd l
      have g6 := g5.same s5
      have h7 := rV.same s5 h6
      cases (show x2 = (V.str word) from hr2)
      unfold W_read_columns_b1 at hw
      obtain ⟨c, hw⟩ := hw
      refine st_asgT ?_
      refine EV.goA (K := K) (en := (eP3 D.str D.str D.str)) (x0 := (Txt.partition word "=")) (ev_m1 (ev_vs (i := 2) rfl) ev_str (md_partn rfl c)) g6.wd fun d e v2 H7 wd3 s6 h8 => ?_
      have hw := hw d e
      have g7 := g6.same s6
      have h9 := rV.same s6 h7
      refine g_tup3 (d1 := D.str d.1) (d2 := D.str d.2.1) (d3 := D.str d.2.2) h8 fun v3 v4 v5 h10 h11 h12 => ?_
      obtain ⟨name, e2⟩ : ∃ z_ : Str, z_ = d.1 := ⟨_, rfl⟩
      have hw := hw name e2
      rw [← e2] at h10
      cases (show v3 = (V.str name) from h10)
      obtain ⟨sign, e3⟩ : ∃ z_ : Str, z_ = d.2.1 := ⟨_, rfl⟩
      have hw := hw sign e3
      rw [← e3] at h11
      cases (show v4 = (V.str sign) from h11)
      obtain ⟨top, e4⟩ : ∃ z_ : Str, z_ = d.2.2 := ⟨_, rfl⟩
      have hw := hw top e4
      rw [← e4] at h12
      cases (show v5 = (V.str top) from h12)
      refine st_if ?_
      obtain ⟨c2, c3, hw⟩ := hw
      refine EVT.go (b := ((!(isWord name)) || ((!decide (sign = "=")) || ((!decide (top ∈ (["1", "2", "3"] : (List Str)))) || (decide (name ∈ (found.map fun (z : (Str × Int)) => z.1))))))) (evt_or (evt_not (evt_b (K := K) (ev_call (eva_cons (ev_vs (i := 3) rfl) eva_nil) (cd_is_word name c2)))) fun hb => (evt_or (evt_test (K := K) (ev_op (ev_vs (i := 4) rfl) ev_str od_neS)) fun hb2 => (evt_or (evt_test (K := K) (ev_op (ev_vs (i := 5) rfl) (ev_tup (ds := [D.str "1", D.str "2", D.str "3"]) (eva_cons ev_str (eva_cons ev_str (eva_cons ev_str eva_nil))) (Nat.le_of_ble_eq_true rfl)) (od_ninS (xs := (["1", "2", "3"] : (List Str))) (.inr rfl)))) fun hb3 => (evt_test (K := K) (ev_op (ev_vs (i := 3) rfl) (ev_lcmm (fd := fun (z : (Str × Int)) => z.1) (en2 := D.str) (xs := found) (en := (eP2 D.str D.int)) (evi_mu (es := List.map (eP2 D.str D.int) found) (ev_var (d := (.mu p (List.map (eP2 D.str D.int) found))) (i := 1) rfl h9)) GL.ex gm_tup2 (c3 hb hb2 hb3) (fun z hy2 M H8 v8 wd4 ex2 h15 => g_tup2 (d1 := D.str z.1) (d2 := D.int z.2) h15 fun v6 v7 h13 h14 => ⟨rfl, rfl, (ev_var (d := (.im (D.str z.1))) (i := 6) rfl h13)⟩)) (od_inS (xs := (found.map fun (z : (Str × Int)) => z.1)) (.inl LsOf.im))))))) g7.wd fun H9 wd5 s7 => ?_
      have g8 := g7.same s7
      have h16 := rV.same s7 h9
      refine wite hw (fun hw => ?_) (fun hw => ?_)
      · skip
        refine st_ret ?_
        refine EV.go (K := K) (d := (.im ((eO (eL (eP2 D.str D.int))) none))) ev_non g8.wd fun v9 H10 wd6 s8 h17 => ?_
        have g9 := g8.same s8
        have h18 := rV.same s8 h16
        exact kk _ _ _ hw g9.w_end (Bu.nil g9.bu eY) (rV.lx Gd.lx_end h17)
      · skip
        refine Lf.st_next ?_
        refine st_expr ?_
        refine x_bm (ev_var (d := (.mu p (List.map (eP2 D.str D.int) found))) (i := 1) rfl h16) LsOf.mu g8.wd fun v10 H11 wd7 s9 h19 => ?_
        have g10 := g8.same s9
        have h20 := rV.same s9 h16
        cases h19.1
        refine x_cons ?_
        obtain ⟨c4, c5, hw⟩ := hw
        refine EV.goA (K := K) (en := (eP2 D.str D.int)) (x0 := (name, (intOf top))) (ev_tup (ds := [D.str name, D.int (intOf top)]) (eva_cons (ev_vs (i := 3) rfl) (eva_cons (ev_cb (eva_cons (ev_vs (i := 5) rfl) eva_nil) (cd_intS c4 c5)) eva_nil)) (Nat.le_of_ble_eq_true rfl)) g10.wd fun d2 e5 v11 H12 wd8 s10 h21 => ?_
        have hw := hw d2 e5
        have g11 := g10.same s10
        have h22 := rV.same s10 h20
        refine x_nil ?_
        obtain ⟨c6, hw⟩ := hw
        refine x_append (d := (eP2 D.str D.int) d2) h22 h21 (by simp) (by rw [List.length_map]; exact c6) fun H13 ⟨vs3, eu⟩ h23 => ?_
        obtain ⟨found2, efound2⟩ : ∃ z_ : (List (Str × Int)), z_ = (found ++ [d2]) := ⟨_, rfl⟩
        have hw := hw found2 efound2
        have h23 : rV K (mxM M0 [p]) H13 (.mu p (List.map (eP2 D.str D.int) found2)) (V.ref p) := by rw [efound2, List.map_append]; exact h23
        subst eu
        have g12 : Gd M0 [p] Y H (upd H12 p (.lst vs3)) := g11.upd (by simp)
        have l2 : Lx (mxM M0 [p]) (mxM M0 [p]) H12 (upd H12 p (.lst vs3)) := Gd.lx_upd (by simp)
        exact ⟨found2, _, _, _, _, rfl, g12, ((((((l.trans (Lx.same s5)).trans (Lx.same s6)).trans (Lx.same s7)).trans (Lx.same s9)).trans (Lx.same s10)).trans l2), h23, hw⟩
    · rintro σ' H14 ⟨found, o, o2, o3, o4, rfl, g13, l3, h6, hI5⟩
      have hw := hI3 found hI5
      unfold W_read_columns_k1 at hw
      refine st_ret ?_
      have h24 : rV K (mxM M0 []) H14 (.im ((eL (eP2 D.str D.int)) found)) (V.ref p) := mu_frzp h6 g13 (i := 0) rfl [] (by decide) rfl
      have g14 := g13.pick [] (Ls' := []) (by decide) rfl
      have l4 : Lx (mxM M0 [p]) (mxM M0 []) H14 H14 := Gd.lx_pick [] rfl
      refine EV.go (K := K) (d := (.im ((eO (eL (eP2 D.str D.int))) (if ((decide (1 ≤ (found.length : Int))) && (decide ((found.length : Int) ≤ 2))) = true then (some found) else none)))) (ev_if (en := fun z => .im ((eO (eL (eP2 D.str D.int))) z)) (x := (some found)) (y := none) (evt_test (K := K) (ev_chain ev_int (ev_cb (eva_cons (ev_var (d := (.im ((eL (eP2 D.str D.int)) found))) (i := 1) rfl h24) eva_nil) (cd_lenm (en := (eP2 D.str D.int)) (xs := found) (.inl LsOf.im))) ev_int od_le (fun _ => od_le))) (fun hb4 => (ev_var (d := (.im ((eL (eP2 D.str D.int)) found))) (i := 1) rfl h24)) fun hb5 => ev_non) g14.wd fun v12 H15 wd9 s11 h25 => ?_
      have g15 := g14.same s11
      exact kk _ _ _ hw g15.w_end (Bu.nil g15.bu eY) (rV.lx Gd.lx_end h25)

end
end Toy

set_option Elab.async false
set_option linter.all false
set_option maxRecDepth 100000
set_option maxHeartbeats 4000000
set_option pp.maxSteps 300
set_option pp.deepTerms false
namespace Toy
open PySem L2 Lf
section
variable {P : Program} {w : World} {K : PySem.W.Frag} {mg : Str → Option Value} {base : Heap} {a : Ad}

theorem sz_ofS {n : Nat} (h : n ≤ 100000) : n + 2 ≤ sizeLine := Nat.le_trans (Nat.add_le_add_right h 2) (by decide)
theorem sp_sign : TL.tl " " = 32 :: [] := by decide +kernel
def pre_rline (l : Str) (b : Bool) : Prop := l.length ≤ 100000 ∧ Txt.split l " " ≠ [] ∧ (Txt.split l " ").length ≤ 100000 ∧ (∀ w ∈ Txt.split l " ", w.length ≤ 100000) ∧ ∀ w ∈ Txt.split l " ", (Txt.split (cutS w none (some (-1))) "_").length ≤ 100000 ∧ (cutS w none (some (-1))).length ≤ 100000 ∧ ∀ p ∈ Txt.split (cutS w none (some (-1))) "_", p.length ≤ 100000
def lineBad (first : Str) : Bool := ((!decide ((cutS first (some (-1 : Int)) none) ∈ (["*", "!", "?"] : (List Str)))) || ((decide (3 < ((Txt.split (cutS first none (some (-1 : Int))) "_").length : Int))) || (!(((Txt.split (cutS first none (some (-1 : Int))) "_").map fun part => (isWord part)).all id))))
def readLine (l : Str) (b : Bool) : Option (Str × Str × List (Str × Int)) := match readCols (Txt.split l " ").tail with
  | none => none
  | some cs => if b = true then (if isWord ((Txt.split l " ").headD default) = true then some ("", "", cs) else none) else if lineBad ((Txt.split l " ").headD default) = true then none else some (cutS ((Txt.split l " ").headD default) none (some (-1)), cutS ((Txt.split l " ").headD default) (some (-1)) none, cs)
def W_read_line (line : Str) (is_first : Bool) (P : (Option (Str × Str × (List (Str × Int)))) → Prop) : Prop :=
  ((line : Str).length + 2 ≤ sizeLine) ∧ ((Txt.split line " ") ≠ []) ∧ ∀ first : Str, first = ((Txt.split line " ").headD default) → ∀ words : (List Str), words = (Txt.split line " ").tail → (pre_rcols words) ∧ ∀ columns : (Option (List (Str × Int))), columns = (readCols words) → (if (columns.isNone) = true then (P none) else ((if is_first = true then ((pre_word first) ∧ ((isWord first) = true → columns.isSome = true) ∧ P (if (isWord first) = true then (some (Str.ofString "", Str.ofString "", (getO columns))) else none)) else (((first : Str).length ≤ sizeLine) ∧ (((cutS first none (some (-1 : Int))) : Str).length + 2 ≤ sizeLine) ∧ ∀ parts : (List Str), parts = (Txt.split (cutS first none (some (-1 : Int))) "_") → ((first : Str).length ≤ sizeLine) ∧ ((!decide ((cutS first (some (-1 : Int)) none) ∈ (["*", "!", "?"] : (List Str)))) = false → (decide (3 < (parts.length : Int))) = false → parts.length ≤ sizeLine) ∧ ((!decide ((cutS first (some (-1 : Int)) none) ∈ (["*", "!", "?"] : (List Str)))) = false → (decide (3 < (parts.length : Int))) = false → ∀ part ∈ parts, pre_word part) ∧ (if ((!decide ((cutS first (some (-1 : Int)) none) ∈ (["*", "!", "?"] : (List Str)))) || ((decide (3 < (parts.length : Int))) || (!((parts.map fun (part : Str) => (isWord part)).all id)))) = true then (P none) else (((first : Str).length ≤ sizeLine) ∧ ((first : Str).length ≤ sizeLine) ∧ (columns.isSome = true) ∧ P (some ((cutS first none (some (-1 : Int))), (cutS first (some (-1 : Int)) none), (getO columns)))))))))
theorem dW_read_line {l : Str} {b : Bool} (hp : pre_rline l b) (P : Option (Str × Str × List (Str × Int)) → Prop) (h : P (readLine l b)) : W_read_line l b P := by
  obtain ⟨h1, h2, h3, h4, h5⟩ := hp
  have hd : (Txt.split l " ").headD default ∈ Txt.split l " " := by
    cases e : Txt.split l " " with
    | nil => exact absurd e h2
    | cons x xs => exact List.mem_cons_self ..
  have s1 : ((Txt.split l " ").headD default).length ≤ sizeLine := sz_of (h4 _ hd)
  refine ⟨by have : l.length + 2 ≤ sizeLine := sz_ofS h1; exact this, h2, fun f hf ws hws => ⟨⟨?_, ?_⟩, fun cs hcs => ?_⟩⟩
  · rw [hws, List.length_tail]; omega
  · intro w hw
    rw [hws] at hw
    exact h4 w (List.mem_of_mem_tail hw)
  · subst hf hws
    unfold readLine at h
    rw [← hcs] at h
    cases cs with
    | none => exact iteT h
    | some cs =>
      rw [if_neg (show ¬ (some cs).isNone = true from fun z => nomatch z)]
      cases b with
      | true =>
        dsimp only at h
        rw [if_pos rfl] at h
        exact iteT ⟨s1, fun _ => rfl, h⟩
      | false =>
        obtain ⟨q1, q2, q3⟩ := h5 _ hd
        dsimp only at h
        rw [if_neg (show ¬ false = true by decide)] at h
        refine iteF ⟨s1, sz_ofS q2, fun ps hps => ?_⟩
        subst hps
        refine ⟨s1, fun _ _ => sz_of q1, fun _ _ p hp => sz_of (q3 p hp), ?_⟩
        show if lineBad _ = true then _ else _
        by_cases c : lineBad ((Txt.split l " ").headD default) = true
        · rw [if_pos c] at h ⊢
          exact h
        · rw [if_neg c] at h ⊢
          exact ⟨s1, s1, rfl, h⟩
def sp_read_line (K : PySem.W.Frag) : Sp := spF K (fun (x : Str × Bool) => [D.str x.1, D.bl x.2]) (eO (eP3 D.str D.str (eL (eP2 D.str D.int)))) (fun (x : Str × Bool) => pre_rline x.1 x.2) (fun (x : Str × Bool) => readLine x.1 x.2)
theorem cd_read_line {E : XK} (line : Str) (is_first : Bool) (hp : pre_rline line is_first) : CaD K (fun vs H Q => sp_read_line K vs H Q E) [.im (D.str line), .im (D.bl is_first)] (.im ((eO (eP3 D.str D.str (eL (eP2 D.str D.int)))) (readLine line is_first))) := cd_fn (ens := (fun (x : Str × Bool) => [D.str x.1, D.bl x.2])) (er := (eO (eP3 D.str D.str (eL (eP2 D.str D.int))))) (line, is_first) hp
theorem sc_read_line : FnScope ["line", "is_first", "first", "words", "columns", "parts", "part"] ["line", "is_first"] (defScope s_read_line) := ⟨rfl, rfl, rfl, by decide +kernel, rfl, by decide +kernel, by decide +kernel⟩
theorem ok_read_line (T : Txt K mg a) : FnOk P w K mg base CX0 3 a.f_read_line a.d_read_line ["line", "is_first"] (sp_read_line K) := by
  refine T.F_read_line.ok sc_read_line (fun vs H Q E h => ?_) (fun cdv A outer s H vs Q E hr h => ?_)
  · obtain ⟨M0, x, w0, hx, _⟩ := h
    exact hx.len
  · obtain ⟨M0, x, w0, hx, hp, kq⟩ := h
    obtain ⟨line, is_first⟩ := x
    have hx : rDs K (Fx M0 H) [D.str line, D.bl is_first] vs := hx
    obtain ⟨v2, _, rfl, h3, v, _, rfl, h2, rfl⟩ := hx
    obtain ⟨Y, eY⟩ : ∃ Y : List Addr, Y = [] := ⟨_, rfl⟩
    have g : Gd M0 [] Y H H := Gd.start w0 (by rw [eY]; exact fun y h => nomatch h)
    cases (show v2 = (V.str line) from h3)
    cases (show v = (V.bl is_first) from h2)
    obtain ⟨P, eP⟩ : ∃ P : (Option (Str × Str × (List (Str × Int)))) → Prop, P = fun r => r = readLine line is_first := ⟨_, rfl⟩
    have kk : ∀ r v H2, P r → Wd M0 H2 → Same H H2 → rD K (Fx M0 H2) ((eO (eP3 D.str D.str (eL (eP2 D.str D.int)))) r) v → Q v H2 := fun r v H2 e => by rw [eP] at e; rw [show r = readLine line is_first from e]; exact kq v H2
    have hw : W_read_line line is_first P := dW_read_line hp P (by rw [eP])
    unfold W_read_line at hw
    refine ⟨_, (pss_cons (ps_asg (pe_split (pv 0) pe_str) (pg_star1 rfl (pgs_cons (pg_name (i := 2) sc_read_line.nd rfl (.inl rfl)) (pgs_cons (pg_name (i := 3) sc_read_line.nd rfl (.inl rfl)) pgs_nil))))
      (pss_cons (ps_set (i := 4) sc_read_line.nd rfl (.inl rfl) (pe_call (ok_read_columns T) (hr.mono (by decide)) rfl T.m_read_columns T.k_read_columns T.a_read_columns .nil pass0 (pa_cons (pv 3) pa_nil)))
      (pss_cons (ps_if (pt_cmpR op_isN1 (pv 4) pe_non (nomark _)) (pss_cons (ps_ret pe_non)
      pss_nil) pss_nil)
      (pss_cons (ps_if (pt_val (pv 1)) (pss_cons (ps_ret (pe_ifExp (pt_val (pe_call (ok_is_word T) (hr.mono (by decide)) rfl T.m_is_word T.k_is_word T.a_is_word .nil pass0 (pa_cons (pv 2) pa_nil))) (pe_tupS (pa_cons pe_str (pa_cons pe_str (pa_cons (pv 4) pa_nil)))) pe_non))
      pss_nil) pss_nil)
      (pss_cons (ps_set (i := 5) sc_read_line.nd rfl (.inl rfl) (pe_split (pe_slice sl_str (pv 2) po_none (po_some (pe_un un_neg pe_int))) pe_str))
      (pss_cons (ps_if (PW.pt (pw_or (pt_cmpR op_notIn_seq (pe_slice sl_str (pv 2) (po_some (pe_un un_neg pe_int)) po_none) (pe_tupS (pa_cons pe_str (pa_cons pe_str (pa_cons pe_str pa_nil)))) rfl) (pw_or (pt_cmpR op_gt (pe_callB call_len_seq (by rfl) T.b_len PySem.boot_len (pa_cons (pv 5) pa_nil)) (pe_glob (v := .int 3) rfl T.g_MOST_WORDS.choose_spec ⟨_, rfl⟩) (nomark _)) (pw_or1 (pt_not (pt_val (pe_callB (cr_all rfl) (by rfl) T.b_all (by decide +kernel) (pa_cons (pe_lc (own := [("part", 6)]) (g := gName 6) (tt := tYes) (te := (tCall (sp_is_word K) [] E0 (tCons (tVar 6) tNil))) rfl sc_read_line.nd (pi_list (pv 5)) (blkOk_by (own := [("part", 6)]) (N := ["line", "is_first", "first", "words", "columns", "parts", "part"]) (sc := defScope s_read_line) (by decide +kernel)) (fun _ _ _ _ _ => (pg_name (i := 6) sc_read_line.nd rfl (.inl rfl))) (fun _ _ _ _ _ => pts_nil) (fun _ _ _ _ _ => (pe_call (ok_is_word T) (hr.mono (by decide)) rfl T.m_is_word T.k_is_word T.a_is_word .nil pass0 (pa_cons (pv 6) pa_nil)))) pa_nil)))))))) (pss_cons (ps_ret pe_non)
      pss_nil) pss_nil)
      (pss_cons (ps_ret (pe_tupS (pa_cons (pe_slice sl_str (pv 2) po_none (po_some (pe_un un_neg pe_int))) (pa_cons (pe_slice sl_str (pv 2) (po_some (pe_un un_neg pe_int)) po_none) (pa_cons (pv 4) pa_nil)))))
      pss_nil))))))), ?_⟩
    obtain ⟨c, c2, hw⟩ := hw
    refine st_star1 (K := K) (en := D.str) (xs := (Txt.split line " ")) (ev_m1 (ev_vs (i := 0) rfl) ev_str (md_split rfl c)) g.wd c2 fun v3 v4 H2 wd s2 h4 h5 => ?_
    have g2 := g.same s2
    obtain ⟨first, e⟩ : ∃ z_ : Str, z_ = ((Txt.split line " ").headD default) := ⟨_, rfl⟩
    have hw := hw first e
    have h4 : rV K (mxM M0 []) H2 (.im (D.str first)) v3 := by rw [e]; exact h4
    cases (show v3 = (V.str first) from h4)
    obtain ⟨words, e2⟩ : ∃ z_ : (List Str), z_ = (Txt.split line " ").tail := ⟨_, rfl⟩
    have hw := hw words e2
    have h5 : rV K (mxM M0 []) H2 (.im ((eL D.str) words)) v4 := by rw [e2]; exact h5
    refine st_set ?_
    obtain ⟨c3, hw⟩ := hw
    refine EV.goA (K := K) (en := (eO (eL (eP2 D.str D.int)))) (x0 := (readCols words)) (ev_call (eva_cons (ev_var (d := (.im ((eL D.str) words))) (i := 3) rfl h5) eva_nil) (cd_read_columns words c3)) g2.wd fun columns e3 v5 H3 wd2 s3 h6 => ?_
    have hw := hw columns e3
    have g3 := g2.same s3
    refine st_if ?_
    refine EVT.go (b := (columns.isNone)) (evt_test (K := K) (ev_op (ev_var (d := (.im ((eO (eL (eP2 D.str D.int))) columns))) (i := 4) rfl h6) ev_non (od_isNO (en := (eL (eP2 D.str D.int))) (fun _ => rfl)))) g3.wd fun H4 wd3 s4 => ?_
    have g4 := g3.same s4
    refine wite hw (fun hw => ?_) (fun hw => ?_)
    · skip
      refine st_ret ?_
      refine EV.go (K := K) (d := (.im ((eO (eP3 D.str D.str (eL (eP2 D.str D.int)))) none))) ev_non g4.wd fun v6 H5 wd4 s5 h7 => ?_
      have g5 := g4.same s5
      exact kk _ _ _ hw g5.w_end (Bu.nil g5.bu eY) (rV.lx Gd.lx_end h7)
    · skip
      refine Lf.st_next ?_
      refine st_if ?_
      refine EVT.go (b := is_first) (evt_b (K := K) (ev_vb (i := 1) rfl)) g4.wd fun H6 wd5 s6 => ?_
      have g6 := g4.same s6
      refine wite hw (fun hw => ?_) (fun hw => ?_)
      · skip
        refine st_ret ?_
        have h8 : rV K (mxM M0 []) H6 (.im ((eO (eL (eP2 D.str D.int))) columns)) v5 := ((h6.same s4).same s6)
        obtain ⟨c4, c5, hw⟩ := hw
        refine EV.go (K := K) (d := (.im ((eO (eP3 D.str D.str (eL (eP2 D.str D.int)))) (if (isWord first) = true then (some (Str.ofString "", Str.ofString "", (getO columns))) else none)))) (ev_if (en := fun z => .im ((eO (eP3 D.str D.str (eL (eP2 D.str D.int)))) z)) (x := (some (Str.ofString "", Str.ofString "", (getO columns)))) (y := none) (evt_b (K := K) (ev_call (eva_cons (ev_vs (i := 2) rfl) eva_nil) (cd_is_word first c4))) (fun hb => (ev_tup (ds := [D.str "", D.str "", (eL (eP2 D.str D.int)) (getO columns)]) (eva_cons ev_str (eva_cons ev_str (eva_cons (ev_getO (en := (eL (eP2 D.str D.int))) (ev_var (d := (.im ((eO (eL (eP2 D.str D.int))) columns))) (i := 4) rfl h8) (c5 hb)) eva_nil))) (Nat.le_of_ble_eq_true rfl))) fun hb2 => ev_non) g6.wd fun v7 H7 wd6 s7 h9 => ?_
        have g7 := g6.same s7
        exact kk _ _ _ hw g7.w_end (Bu.nil g7.bu eY) (rV.lx Gd.lx_end h9)
      · skip
        refine Lf.st_next ?_
        refine st_set ?_
        obtain ⟨c6, c7, hw⟩ := hw
        refine EV.goA (K := K) (en := (eL D.str)) (x0 := (Txt.split (cutS first none (some (-1 : Int))) "_")) (ev_m1 (ev_slS c6 (ev_vs (i := 2) rfl) evo_none (evo_some (K := K) (ev_un ev_int ud_neg))) ev_str (md_split rfl c7)) g6.wd fun parts e4 v8 H8 wd7 s8 h10 => ?_
        have hw := hw parts e4
        have g8 := g6.same s8
        refine st_if ?_
        obtain ⟨c8, c9, c10, hw⟩ := hw
        refine EVT.go (b := ((!decide ((cutS first (some (-1 : Int)) none) ∈ (["*", "!", "?"] : (List Str)))) || ((decide (3 < (parts.length : Int))) || (!((parts.map fun (part : Str) => (isWord part)).all id))))) (evt_or (evt_test (K := K) (ev_op (ev_slS c8 (ev_vs (i := 2) rfl) (evo_some (K := K) (ev_un ev_int ud_neg)) evo_none) (ev_tup (ds := [D.str "*", D.str "!", D.str "?"]) (eva_cons ev_str (eva_cons ev_str (eva_cons ev_str eva_nil))) (Nat.le_of_ble_eq_true rfl)) (od_ninS (xs := (["*", "!", "?"] : (List Str))) (.inr rfl)))) fun hb3 => (evt_or (evt_test (K := K) (ev_op (ev_cb (eva_cons (ev_var (d := (.im ((eL D.str) parts))) (i := 5) rfl h10) eva_nil) (cd_lenm (en := D.str) (xs := parts) (.inl LsOf.im))) ev_int od_gt)) fun hb4 => (evt_not (evt_b (K := K) (ev_cb (eva_cons (ev_lcmm (fd := fun (part : Str) => (isWord part)) (en2 := D.bl) (xs := parts) (en := D.str) (evi_list (es := List.map D.str parts) (ev_var (d := (.im ((eL D.str) parts))) (i := 5) rfl h10)) GI.ex gm_name (c9 hb3 hb4) (fun part hy M H9 v9 wd8 ex h11 => ⟨rfl, rfl, (ev_call (eva_cons (ev_var (d := (.im (D.str part))) (i := 6) rfl h11) eva_nil) (cd_is_word part (c10 hb3 hb4 part hy)))⟩)) eva_nil) (cd_all (bs := (parts.map fun (part : Str) => (isWord part))) LsOf.im)))))) g8.wd fun H10 wd9 s9 => ?_
        have g9 := g8.same s9
        refine wite hw (fun hw => ?_) (fun hw => ?_)
        · skip
          refine st_ret ?_
          refine EV.go (K := K) (d := (.im ((eO (eP3 D.str D.str (eL (eP2 D.str D.int)))) none))) ev_non g9.wd fun v10 H11 wd10 s10 h12 => ?_
          have g10 := g9.same s10
          exact kk _ _ _ hw g10.w_end (Bu.nil g10.bu eY) (rV.lx Gd.lx_end h12)
        · skip
          refine Lf.st_next ?_
          refine st_ret ?_
          have h13 : rV K (mxM M0 []) H10 (.im ((eO (eL (eP2 D.str D.int))) columns)) v5 := ((((h6.same s4).same s6).same s8).same s9)
          obtain ⟨c11, c12, c13, hw⟩ := hw
          refine EV.go (K := K) (d := (.im ((eO (eP3 D.str D.str (eL (eP2 D.str D.int)))) (some ((cutS first none (some (-1 : Int))), (cutS first (some (-1 : Int)) none), (getO columns)))))) (ev_tup (ds := [D.str (cutS first none (some (-1 : Int))), D.str (cutS first (some (-1 : Int)) none), (eL (eP2 D.str D.int)) (getO columns)]) (eva_cons (ev_slS c11 (ev_vs (i := 2) rfl) evo_none (evo_some (K := K) (ev_un ev_int ud_neg))) (eva_cons (ev_slS c12 (ev_vs (i := 2) rfl) (evo_some (K := K) (ev_un ev_int ud_neg)) evo_none) (eva_cons (ev_getO (en := (eL (eP2 D.str D.int))) (ev_var (d := (.im ((eO (eL (eP2 D.str D.int))) columns))) (i := 4) rfl h13) c13) eva_nil))) (Nat.le_of_ble_eq_true rfl)) g9.wd fun v11 H12 wd11 s11 h14 => ?_
          have g11 := g9.same s11
          exact kk _ _ _ hw g11.w_end (Bu.nil g11.bu eY) (rV.lx Gd.lx_end h14)

end
end Toy

set_option Elab.async false
set_option linter.all false
set_option maxRecDepth 100000
set_option maxHeartbeats 4000000
set_option pp.maxSteps 300
set_option pp.deepTerms false
namespace Toy
open PySem L2 Lf
section
variable {P : Program} {w : World} {K : PySem.W.Frag} {mg : Str → Option Value} {base : Heap} {a : Ad}
theorem sc_BadSchema__init : FnScope ["self", "at"] ["self", "at"] (defScope s_BadSchema__init) := ⟨rfl, rfl, rfl, by decide +kernel, rfl, by decide +kernel, by decide +kernel⟩
theorem ok_BadSchema__init (T : Txt K mg a) : FnOk P w K mg base CX0 1 a.f_BadSchema__init a.d_BadSchema__init ["self", "at"] (spErr a.C_BadSchema "at") := by
  refine T.F_BadSchema__init.ok sc_BadSchema__init (fun vs H Q E h => ?_) (fun cdv A outer s H vs Q E hr h => ?_)
  · obtain ⟨e, y, rfl, _⟩ := h
    rfl
  · obtain ⟨e, y, rfl, he, k⟩ := h
    refine ⟨_, (pss_one (ps_ost (pv 0) (pv 1))), ?_⟩
    exact ⟨_, rfl, _, rfl, e, a.C_BadSchema, rfl, T.e_BadSchema.ox, T.n_BadSchema_at, .inl ⟨he, fun d nd ne => k d nd ne⟩⟩
theorem sc_BadHead__init : FnScope ["self", "path"] ["self", "path"] (defScope s_BadHead__init) := ⟨rfl, rfl, rfl, by decide +kernel, rfl, by decide +kernel, by decide +kernel⟩
theorem ok_BadHead__init (T : Txt K mg a) : FnOk P w K mg base CX0 1 a.f_BadHead__init a.d_BadHead__init ["self", "path"] (spErr a.C_BadHead "path") := by
  refine T.F_BadHead__init.ok sc_BadHead__init (fun vs H Q E h => ?_) (fun cdv A outer s H vs Q E hr h => ?_)
  · obtain ⟨e, y, rfl, _⟩ := h
    rfl
  · obtain ⟨e, y, rfl, he, k⟩ := h
    refine ⟨_, (pss_one (ps_ost (pv 0) (pv 1))), ?_⟩
    exact ⟨_, rfl, _, rfl, e, a.C_BadHead, rfl, T.e_BadHead.ox, T.n_BadHead_path, .inl ⟨he, fun d nd ne => k d nd ne⟩⟩

structure Sch where
  text : Str
  marks : List (Str × Str)
  fields : List (Str × List (Str × Int))
abbrev eSch (C : Addr) (s : Sch) : D := .ob C ["text", "marks", "fields"] [.str s.text, eK D.str s.marks, eK (eL (eP2 D.str D.int)) s.fields]
/-- what a schema's tables keep -/
structure WfS (s : Sch) : Prop where
  few : s.marks.length ≤ 7
  short : ∀ z ∈ s.marks, z.1.length ≤ 1000
  cols : ∀ f ∈ s.fields, f.2.length ≤ 2 ∧ ∀ c ∈ f.2, 0 ≤ c.2 ∧ c.2 ≤ 3
def Sch.has (s : Sch) (p : Str) : Bool := (true && ((hasA s.marks p) && (decide ((getA s.marks p) ∈ (["", "*"] : (List Str))))))
def W_Schema__contains (self : Sch) (path : Str) (P : Bool → Prop) : Prop :=
  (true = true → (hasA self.marks path) = true → hasA self.marks path = true) ∧ P (true && ((hasA self.marks path) && (decide ((getA self.marks path) ∈ (["", "*"] : (List Str))))))
theorem dW_Schema__contains {s : Sch} {p : Str} (P : Bool → Prop) (h : P (s.has p)) : W_Schema__contains s p P := ⟨fun _ h => h, h⟩
def sp_Schema__contains (K : PySem.W.Frag) (a : Ad) : Sp := spF K (fun (x : Sch × Str) => [(eSch a.C_Schema) x.1, D.str x.2]) D.bl (fun (x : Sch × Str) => True) (fun (x : Sch × Str) => Sch.has x.1 x.2)
theorem cd_Schema__contains {E : XK} (self : Sch) (path : Str) (hp : True) : CaD K (fun vs H Q => sp_Schema__contains K a vs H Q E) [.im ((eSch a.C_Schema) self), .im (D.str path)] (.im (D.bl (Sch.has self path))) := cd_fn (ens := (fun (x : Sch × Str) => [(eSch a.C_Schema) x.1, D.str x.2])) (er := D.bl) (self, path) hp
theorem sc_Schema__contains : FnScope ["self", "path"] ["self", "path"] (defScope s_Schema__contains) := ⟨rfl, rfl, rfl, by decide +kernel, rfl, by decide +kernel, by decide +kernel⟩
theorem ok_Schema__contains (T : Txt K mg a) : FnOk P w K mg base CX0 1 a.f_Schema__contains a.d_Schema__contains ["self", "path"] (sp_Schema__contains K a) := by
  refine T.F_Schema__contains.ok sc_Schema__contains (fun vs H Q E h => ?_) (fun cdv A outer s H vs Q E hr h => ?_)
  · obtain ⟨M0, x, w0, hx, _⟩ := h
    exact hx.len
  · obtain ⟨M0, x, w0, hx, hp, kq⟩ := h
    obtain ⟨self, path⟩ := x
    have hx : rDs K (Fx M0 H) [(eSch a.C_Schema) self, D.str path] vs := hx
    obtain ⟨v2, _, rfl, h3, v, _, rfl, h2, rfl⟩ := hx
    obtain ⟨Y, eY⟩ : ∃ Y : List Addr, Y = [] := ⟨_, rfl⟩
    have g : Gd M0 [] Y H H := Gd.start w0 (by rw [eY]; exact fun y h => nomatch h)
    have h3 : rV K (mxM M0 []) H (.im ((eSch a.C_Schema) self)) v2 := rV.lx Gd.lx0 (show rV K M0 H (.im ((eSch a.C_Schema) self)) v2 from h3)
    cases (show v = (V.str path) from h2)
    obtain ⟨P, eP⟩ : ∃ P : Bool → Prop, P = fun r => r = Sch.has self path := ⟨_, rfl⟩
    have kk : ∀ r v H2, P r → Wd M0 H2 → Same H H2 → rD K (Fx M0 H2) (D.bl r) v → Q v H2 := fun r v H2 e => by rw [eP] at e; rw [show r = Sch.has self path from e]; exact kq v H2
    have hw : W_Schema__contains self path P := dW_Schema__contains  P (by rw [eP])
    unfold W_Schema__contains at hw
    have hu := hu_of hr
    refine ⟨_, (pss_cons (ps_ret (pe_and (pe_callB call_isi (by rfl) T.b_isinstance (by decide +kernel) (pa_cons (pv 1) (pa_cons (pe_bltn (v := .ty "str") (by rfl) T.b_str (by decide +kernel) rfl) pa_nil))) (pe_and (pe_cmp (pc_din hu (pv 1) (pe_fld (pv 0) rfl))) (pe_one (pe_cmpR op_in_seq (pe_dget hu (pe_fld (pv 0) rfl) (pv 1) (fun _ _ => rfl)) (pe_tupS (pa_cons pe_str (pa_cons pe_str pa_nil))) rfl)))))
      pss_nil), ?_⟩
    refine st_ret ?_
    obtain ⟨c, hw⟩ := hw
    refine EV.go (K := K) (d := (.im (D.bl (true && ((hasA self.marks path) && (decide ((getA self.marks path) ∈ (["", "*"] : (List Str))))))))) (ev_and (ev_cb (eva_cons (ev_vs (i := 1) rfl) (eva_cons ev_ty eva_nil)) (cd_isi (x := D.str path) (a := "str") (b := "str") (r := true) rfl (by decide +kernel))) fun hb => (ev_and (ev_kin (en := D.str) (kvs := self.marks) (k := path) (ev_fld 1 (ev_var (d := (.im ((eSch a.C_Schema) self))) (i := 0) rfl h3) T.c_Schema T.n_Schema_marks (by decide) rfl rfl) (ev_vs (i := 1) rfl)) fun hb2 => (ev_op (ev_kget (en := D.str) (kvs := self.marks) (k := path) (ev_fld 1 (ev_var (d := (.im ((eSch a.C_Schema) self))) (i := 0) rfl h3) T.c_Schema T.n_Schema_marks (by decide) rfl rfl) (ev_vs (i := 1) rfl) (c hb hb2)) (ev_tup (ds := [D.str "", D.str "*"]) (eva_cons ev_str (eva_cons ev_str eva_nil)) (Nat.le_of_ble_eq_true rfl)) (od_inS (xs := (["", "*"] : (List Str))) (.inr rfl))))) g.wd fun v3 H2 wd s2 h4 => ?_
    have g2 := g.same s2
    exact kk _ _ _ hw g2.w_end (Bu.nil g2.bu eY) (rV.lx Gd.lx_end h4)
def Sch.heads (s : Sch) : List Str := ((s.marks.filter fun z => (decide (z.2 ∈ (["", "*"] : (List Str))))).map fun z => z.1)
def pre_shds (s : Sch) : Prop := s.marks.length ≤ sizeLine
def W_Schema_heads (self : Sch) (P : (List Str) → Prop) : Prop :=
  (self.marks.length ≤ sizeLine) ∧ P ((self.marks.filter fun (z : (Str × Str)) => (decide (z.2 ∈ (["", "*"] : (List Str))))).map fun (z : (Str × Str)) => z.1)
theorem dW_Schema_heads {s : Sch} (hp : pre_shds s) (P : List Str → Prop) (h : P s.heads) : W_Schema_heads s P := ⟨hp, h⟩
def sp_Schema_heads (K : PySem.W.Frag) (a : Ad) : Sp := spF K (fun (x : Sch) => [(eSch a.C_Schema) x]) (eL D.str) (fun (x : Sch) => pre_shds x) (fun (x : Sch) => Sch.heads x)
theorem cd_Schema_heads {E : XK} (self : Sch) (hp : pre_shds self) : CaD K (fun vs H Q => sp_Schema_heads K a vs H Q E) [.im ((eSch a.C_Schema) self)] (.im ((eL D.str) (Sch.heads self))) := cd_fn (ens := (fun (x : Sch) => [(eSch a.C_Schema) x])) (er := (eL D.str)) self hp
theorem sc_Schema_heads : FnScope ["self", "path", "mark"] ["self"] (defScope s_Schema_heads) := ⟨rfl, rfl, rfl, by decide +kernel, rfl, by decide +kernel, by decide +kernel⟩
theorem ok_Schema_heads (T : Txt K mg a) : FnOk P w K mg base CX0 1 a.f_Schema_heads a.d_Schema_heads ["self"] (sp_Schema_heads K a) := by
  refine T.F_Schema_heads.ok sc_Schema_heads (fun vs H Q E h => ?_) (fun cdv A outer s H vs Q E hr h => ?_)
  · obtain ⟨M0, x, w0, hx, _⟩ := h
    exact hx.len
  · obtain ⟨M0, x, w0, hx, hp, kq⟩ := h
    obtain ⟨self, ex⟩ : ∃ z, z = x := ⟨_, rfl⟩
    subst ex
    have hx : rDs K (Fx M0 H) [(eSch a.C_Schema) self] vs := hx
    obtain ⟨v, _, rfl, h2, rfl⟩ := hx
    obtain ⟨Y, eY⟩ : ∃ Y : List Addr, Y = [] := ⟨_, rfl⟩
    have g : Gd M0 [] Y H H := Gd.start w0 (by rw [eY]; exact fun y h => nomatch h)
    have h2 : rV K (mxM M0 []) H (.im ((eSch a.C_Schema) self)) v := rV.lx Gd.lx0 (show rV K M0 H (.im ((eSch a.C_Schema) self)) v from h2)
    obtain ⟨P, eP⟩ : ∃ P : (List Str) → Prop, P = fun r => r = Sch.heads self := ⟨_, rfl⟩
    have kk : ∀ r v H2, P r → Wd M0 H2 → Same H H2 → rD K (Fx M0 H2) ((eL D.str) r) v → Q v H2 := fun r v H2 e => by rw [eP] at e; rw [show r = Sch.heads self from e]; exact kq v H2
    have hw : W_Schema_heads self P := dW_Schema_heads hp P (by rw [eP])
    unfold W_Schema_heads at hw
    refine ⟨_, (pss_cons (ps_ret (pe_lc (own := [("path", 1), ("mark", 2)]) (g := gTup K 2 (gCons (gName 1) (gCons (gName 2) gNil))) (tt := (tTest (tOp (rIn K false) (tVar 2) (tTupS (tCons (tC (.str "")) (tCons (tC (.str "*")) tNil)))))) (te := (tVar 1)) rfl sc_Schema_heads.nd (pi_items (pe_fld (pv 0) rfl)) (blkOk_by (own := [("path", 1), ("mark", 2)]) (N := ["self", "path", "mark"]) (sc := defScope s_Schema_heads) (by decide +kernel)) (fun _ _ _ _ _ => (pg_tup rfl (pgs_cons (pg_name (i := 1) sc_Schema_heads.nd rfl (.inl rfl)) (pgs_cons (pg_name (i := 2) sc_Schema_heads.nd rfl (.inl rfl)) pgs_nil)))) (fun _ _ _ _ _ => (pts_one (pt_cmpR op_in_seq (pv 2) (pe_tupS (pa_cons pe_str (pa_cons pe_str pa_nil))) rfl))) (fun _ _ _ _ _ => (pv 1))))
      pss_nil), ?_⟩
    refine st_ret ?_
    obtain ⟨c, hw⟩ := hw
    refine EV.go (K := K) (d := (.im ((eL D.str) ((self.marks.filter fun (z : (Str × Str)) => (decide (z.2 ∈ (["", "*"] : (List Str))))).map fun (z : (Str × Str)) => z.1)))) (ev_lcfm (fd := fun (z : (Str × Str)) => z.1) (en2 := D.str) (xs := self.marks) (en := (eP2 D.str D.str)) (p := fun (z : (Str × Str)) => (decide (z.2 ∈ (["", "*"] : (List Str))))) (evi_items (en := D.str) (kvs := self.marks) (ev_fld 1 (ev_var (d := (.im ((eSch a.C_Schema) self))) (i := 0) rfl h2) T.c_Schema T.n_Schema_marks (by decide) rfl rfl)) GI.ex gm_tup2 c (fun z hy M H2 v4 wd ex h5 => g_tup2 (d1 := D.str z.1) (d2 := D.str z.2) h5 fun v2 v3 h3 h4 => ⟨rfl, rfl, (evt_test (K := K) (ev_op (ev_var (d := (.im (D.str z.2))) (i := 2) rfl h4) (ev_tup (ds := [D.str "", D.str "*"]) (eva_cons ev_str (eva_cons ev_str eva_nil)) (Nat.le_of_ble_eq_true rfl)) (od_inS (xs := (["", "*"] : (List Str))) (.inr rfl)))), fun hb => (ev_var (d := (.im (D.str z.1))) (i := 1) rfl h3)⟩)) g.wd fun v5 H3 wd2 s2 h6 => ?_
    have g2 := g.same s2
    exact kk _ _ _ hw g2.w_end (Bu.nil g2.bu eY) (rV.lx Gd.lx_end h6)
def Sch.admits (s : Sch) (p : Str) (b : Bool) : Bool := if b = true then true else if ((hasA s.marks p) || (!hasA s.marks (above p))) = true then false else (!decide ((seenF (above p) p) ∈ ((getA s.fields (above p)).map fun z => z.1)))
def pre_admits (s : Sch) (p : Str) (b : Bool) : Prop := b = false → p.length ≤ 100000 ∧ (hasA s.marks (above p) = true → (above p).length ≤ 100000 ∧ hasA s.fields (above p) = true ∧ (getA s.fields (above p)).length ≤ 100000)
def W_Schema_admits (self : Sch) (path : Str) (is_first : Bool) (P : Bool → Prop) : Prop :=
  (if is_first = true then (P true) else ((pre_above path) ∧ ∀ upper : Str, upper = (above path) → (if ((hasA self.marks path) || (!hasA self.marks upper)) = true then (P false) else ((pre_seenF upper path) ∧ (hasA self.fields upper = true) ∧ ((getA self.fields upper).length ≤ sizeLine) ∧ P (!decide ((seenF upper path) ∈ ((getA self.fields upper).map fun (z : (Str × Int)) => z.1)))))))
theorem dW_Schema_admits {s : Sch} {p : Str} {b : Bool} (hp : pre_admits s p b) (P : Bool → Prop) (h : P (s.admits p b)) : W_Schema_admits s p b P := by
  unfold Sch.admits at h
  cases b with
  | true => exact iteT h
  | false =>
    obtain ⟨h1, h2⟩ := hp rfl
    refine iteF ⟨sz_of h1, ?_⟩
    rintro _ rfl
    rw [if_neg (show ¬ false = true by decide)] at h
    by_cases c : ((hasA s.marks p) || (!hasA s.marks (above p))) = true
    · rw [if_pos c] at h ⊢
      exact h
    · rw [if_neg c] at h ⊢
      have hm : hasA s.marks (above p) = true := by
        cases e : hasA s.marks (above p) with
        | true => rfl
        | false => exact absurd (by rw [e]; simp) c
      obtain ⟨q1, q2, q3⟩ := h2 hm
      exact ⟨⟨sz_of q1, sz_of h1⟩, q2, sz_of q3, h⟩
def sp_Schema_admits (K : PySem.W.Frag) (a : Ad) : Sp := spF K (fun (x : Sch × Str × Bool) => [(eSch a.C_Schema) x.1, D.str x.2.1, D.bl x.2.2]) D.bl (fun (x : Sch × Str × Bool) => pre_admits x.1 x.2.1 x.2.2) (fun (x : Sch × Str × Bool) => Sch.admits x.1 x.2.1 x.2.2)
theorem cd_Schema_admits {E : XK} (self : Sch) (path : Str) (is_first : Bool) (hp : pre_admits self path is_first) : CaD K (fun vs H Q => sp_Schema_admits K a vs H Q E) [.im ((eSch a.C_Schema) self), .im (D.str path), .im (D.bl is_first)] (.im (D.bl (Sch.admits self path is_first))) := cd_fn (ens := (fun (x : Sch × Str × Bool) => [(eSch a.C_Schema) x.1, D.str x.2.1, D.bl x.2.2])) (er := D.bl) (self, path, is_first) hp
theorem sc_Schema_admits : FnScope ["self", "path", "is_first", "upper", "name", "top"] ["self", "path", "is_first"] (defScope s_Schema_admits) := ⟨rfl, rfl, rfl, by decide +kernel, rfl, by decide +kernel, by decide +kernel⟩
theorem ok_Schema_admits (T : Txt K mg a) : FnOk P w K mg base CX0 2 a.f_Schema_admits a.d_Schema_admits ["self", "path", "is_first"] (sp_Schema_admits K a) := by
  refine T.F_Schema_admits.ok sc_Schema_admits (fun vs H Q E h => ?_) (fun cdv A outer s H vs Q E hr h => ?_)
  · obtain ⟨M0, x, w0, hx, _⟩ := h
    exact hx.len
  · obtain ⟨M0, x, w0, hx, hp, kq⟩ := h
    obtain ⟨self, path, is_first⟩ := x
    have hx : rDs K (Fx M0 H) [(eSch a.C_Schema) self, D.str path, D.bl is_first] vs := hx
    obtain ⟨v3, _, rfl, h4, v2, _, rfl, h3, v, _, rfl, h2, rfl⟩ := hx
    obtain ⟨Y, eY⟩ : ∃ Y : List Addr, Y = [] := ⟨_, rfl⟩
    have g : Gd M0 [] Y H H := Gd.start w0 (by rw [eY]; exact fun y h => nomatch h)
    have h4 : rV K (mxM M0 []) H (.im ((eSch a.C_Schema) self)) v3 := rV.lx Gd.lx0 (show rV K M0 H (.im ((eSch a.C_Schema) self)) v3 from h4)
    cases (show v2 = (V.str path) from h3)
    cases (show v = (V.bl is_first) from h2)
    obtain ⟨P, eP⟩ : ∃ P : Bool → Prop, P = fun r => r = Sch.admits self path is_first := ⟨_, rfl⟩
    have kk : ∀ r v H2, P r → Wd M0 H2 → Same H H2 → rD K (Fx M0 H2) (D.bl r) v → Q v H2 := fun r v H2 e => by rw [eP] at e; rw [show r = Sch.admits self path is_first from e]; exact kq v H2
    have hw : W_Schema_admits self path is_first P := dW_Schema_admits hp P (by rw [eP])
    unfold W_Schema_admits at hw
    have hu := hu_of hr
    refine ⟨_, (pss_cons (ps_if (pt_val (pv 2)) (pss_cons (ps_ret pe_bl)
      pss_nil) pss_nil)
      (pss_cons (ps_set (i := 3) sc_Schema_admits.nd rfl (.inl rfl) (pe_call (ok_path_above T) (hr.mono (by decide)) rfl T.m_path_above T.k_path_above T.a_path_above .nil pass0 (pa_cons (pv 1) pa_nil)))
      (pss_cons (ps_if (PW.pt (pw_or (pt_cmp (pc_din hu (pv 1) (pe_fld (pv 0) rfl))) (pw_or1 (pt_cmp (pc_dnotin hu (pv 3) (pe_fld (pv 0) rfl)))))) (pss_cons (ps_ret pe_bl)
      pss_nil) pss_nil)
      (pss_cons (ps_ret (pe_cmpR op_notIn_seq (pe_call (ok_seen_from T) (hr.mono (by decide)) rfl T.m_seen_from T.k_seen_from T.a_seen_from .nil pass0 (pa_cons (pv 3) (pa_cons (pv 1) pa_nil))) (pe_lc (own := [("name", 4), ("top", 5)]) (g := gTup K 2 (gCons (gName 4) (gCons (gName 5) gNil))) (tt := tYes) (te := (tVar 4)) rfl sc_Schema_admits.nd (pi_list (pe_dget hu (pe_fld (pv 0) rfl) (pv 3) (fun _ _ => rfl))) (blkOk_by (own := [("name", 4), ("top", 5)]) (N := ["self", "path", "is_first", "upper", "name", "top"]) (sc := defScope s_Schema_admits) (by decide +kernel)) (fun _ _ _ _ _ => (pg_tup rfl (pgs_cons (pg_name (i := 4) sc_Schema_admits.nd rfl (.inl rfl)) (pgs_cons (pg_name (i := 5) sc_Schema_admits.nd rfl (.inl rfl)) pgs_nil)))) (fun _ _ _ _ _ => pts_nil) (fun _ _ _ _ _ => (pv 4))) rfl))
      pss_nil)))), ?_⟩
    refine st_if ?_
    refine EVT.go (b := is_first) (evt_b (K := K) (ev_vb (i := 2) rfl)) g.wd fun H2 wd s2 => ?_
    have g2 := g.same s2
    refine wite hw (fun hw => ?_) (fun hw => ?_)
    · skip
      refine st_ret ?_
      refine EV.go (K := K) (d := (.im (D.bl true))) ev_bl g2.wd fun v4 H3 wd2 s3 h5 => ?_
      have g3 := g2.same s3
      exact kk _ _ _ hw g3.w_end (Bu.nil g3.bu eY) (rV.lx Gd.lx_end h5)
    · skip
      refine Lf.st_next ?_
      refine st_set ?_
      obtain ⟨c, hw⟩ := hw
      refine EV.goA (K := K) (en := D.str) (x0 := (above path)) (ev_call (eva_cons (ev_vs (i := 1) rfl) eva_nil) (cd_path_above path c)) g2.wd fun upper e v5 H4 wd3 s4 h6 => ?_
      have hw := hw upper e
      have g4 := g2.same s4
      cases (show v5 = (V.str upper) from h6)
      refine st_if ?_
      have h7 : rV K (mxM M0 []) H4 (.im ((eSch a.C_Schema) self)) v3 := ((h4.same s2).same s4)
      refine EVT.go (b := ((hasA self.marks path) || (!hasA self.marks upper))) (evt_or (evt_b (K := K) (ev_kin (en := D.str) (kvs := self.marks) (k := path) (ev_fld 1 (ev_var (d := (.im ((eSch a.C_Schema) self))) (i := 0) rfl h7) T.c_Schema T.n_Schema_marks (by decide) rfl rfl) (ev_vs (i := 1) rfl))) fun hb => (evt_b (K := K) (ev_knin (en := D.str) (kvs := self.marks) (k := upper) (ev_fld 1 (ev_var (d := (.im ((eSch a.C_Schema) self))) (i := 0) rfl h7) T.c_Schema T.n_Schema_marks (by decide) rfl rfl) (ev_vs (i := 3) rfl)))) g4.wd fun H5 wd4 s5 => ?_
      have g5 := g4.same s5
      refine wite hw (fun hw => ?_) (fun hw => ?_)
      · skip
        refine st_ret ?_
        refine EV.go (K := K) (d := (.im (D.bl false))) ev_bl g5.wd fun v6 H6 wd5 s6 h8 => ?_
        have g6 := g5.same s6
        exact kk _ _ _ hw g6.w_end (Bu.nil g6.bu eY) (rV.lx Gd.lx_end h8)
      · skip
        refine Lf.st_next ?_
        refine st_ret ?_
        have h9 : rV K (mxM M0 []) H5 (.im ((eSch a.C_Schema) self)) v3 := (h7.same s5)
        obtain ⟨c2, c4, c5, hw⟩ := hw
        refine EV.go (K := K) (d := (.im (D.bl (!decide ((seenF upper path) ∈ ((getA self.fields upper).map fun (z : (Str × Int)) => z.1)))))) (ev_op (ev_call (eva_cons (ev_vs (i := 3) rfl) (eva_cons (ev_vs (i := 1) rfl) eva_nil)) (cd_seen_from upper path c2)) (ev_lcmm (fd := fun (z : (Str × Int)) => z.1) (en2 := D.str) (xs := (getA self.fields upper)) (en := (eP2 D.str D.int)) (evi_list (es := List.map (eP2 D.str D.int) (getA self.fields upper)) (ev_kget (en := (eL (eP2 D.str D.int))) (kvs := self.fields) (k := upper) (ev_fld 2 (ev_var (d := (.im ((eSch a.C_Schema) self))) (i := 0) rfl h9) T.c_Schema T.n_Schema_fields (by decide) rfl rfl) (ev_vs (i := 3) rfl) c4)) GI.ex gm_tup2 c5 (fun z hy M H7 v9 wd6 ex h12 => g_tup2 (d1 := D.str z.1) (d2 := D.int z.2) h12 fun v7 v8 h10 h11 => ⟨rfl, rfl, (ev_var (d := (.im (D.str z.1))) (i := 4) rfl h10)⟩)) (od_ninS (xs := ((getA self.fields upper).map fun (z : (Str × Int)) => z.1)) (.inl LsOf.im))) g5.wd fun v10 H8 wd7 s7 h13 => ?_
        have g7 := g5.same s7
        exact kk _ _ _ hw g7.w_end (Bu.nil g7.bu eY) (rV.lx Gd.lx_end h13)
def manyStep (f : Str → Int) (p : Str) (m : Int) (z : Str × Str) : Int := if ((decide (z.2 ∈ (["!", "?"] : (List Str)))) && (decide ((above z.1) = p))) = true then (m * (f z.1 + (if (decide (z.2 = "?")) then (1 : Int) else 0))) else m
def colsP (cs : List (Str × Int)) : Int := cs.foldl (fun m z => m * (z.2 + 1)) 1
def many : Nat → Sch → Str → Int
  | 0, _, _ => 1
  | n + 1, s, p => s.marks.foldl (manyStep (many n s) p) (colsP (getA s.fields p))
def pre_many : Nat → Sch → Str → Prop
  | 0, _, _ => False
  | fu + 1, s, p => fu + 1 ≤ 6 ∧ WfS s ∧ hasA s.fields p = true ∧ ∀ z ∈ s.marks, (decide (z.2 ∈ (["!", "?"] : (List Str)))) = true → above z.1 = p → pre_many fu s z.1
def Sch.howMany (s : Sch) (p : Str) : Int := many 6 s p
theorem no_Schema_how_many {s : Sch} {p : Str} (h : pre_many 0 s p) : False := h
theorem foldl_eq {α β : Type} {f g : β → α → β} : ∀ {l : List α} {b : β}, (∀ x ∈ l, ∀ b, f b x = g b x) → l.foldl f b = l.foldl g b
  | [], b, _ => rfl
  | x :: l, b, h => by rw [List.foldl_cons, List.foldl_cons, h x (List.mem_cons_self ..)]; exact foldl_eq fun y hy => h y (List.mem_cons_of_mem _ hy)
theorem many_eq : ∀ {fu m : Nat} {s : Sch} {p : Str}, pre_many fu s p → fu ≤ m → many m s p = many fu s p
  | 0, m, s, p, h, _ => h.elim
  | fu + 1, 0, s, p, h, hm => by omega
  | fu + 1, m + 1, s, p, h, hm => by
    show s.marks.foldl (manyStep (many m s) p) _ = s.marks.foldl (manyStep (many fu s) p) _
    refine foldl_eq fun z hz b => ?_
    unfold manyStep
    by_cases c : ((decide (z.2 ∈ (["!", "?"] : (List Str)))) && (decide ((above z.1) = p))) = true
    · rw [if_pos c, if_pos c]
      rw [Bool.and_eq_true] at c
      rw [many_eq (h.2.2.2 z hz c.1 (of_decide_eq_true c.2)) (by omega)]
    · rw [if_neg c, if_neg c]
theorem howMany_eq {fu : Nat} {s : Sch} {p : Str} (h : pre_many fu s p) : s.howMany p = many fu s p := by
  cases fu with
  | zero => exact h.elim
  | succ fu => exact many_eq h h.1
theorem p2_le {a b : Nat} (h : a ≤ b) : (2 : Int) ^ a ≤ 2 ^ b := by
  have := Nat.pow_le_pow_right (show 0 < 2 by decide) h
  exact_mod_cast this
theorem p2_one (k : Nat) : (1 : Int) ≤ 2 ^ k := by
  have := Nat.one_le_two_pow (n := k)
  exact_mod_cast this
/-- bounds: 2 ^ bM n -/
def bM : Nat → Nat
  | 0 => 0
  | n + 1 => 4 + 7 * (bM n + 1)
theorem fold_bound {α : Type} {f : Int → α → Int} (k : Nat) : ∀ {l : List α} {b : Int} {j : Nat}, (∀ x ∈ l, ∀ b, 0 ≤ b → 0 ≤ f b x ∧ f b x ≤ b * 2 ^ k) → 0 ≤ b → b ≤ 2 ^ j → 0 ≤ l.foldl f b ∧ l.foldl f b ≤ 2 ^ (j + k * l.length)
  | [], b, j, _, h0, h1 => ⟨h0, by simpa using h1⟩
  | x :: l, b, j, h, h0, h1 => by
    obtain ⟨q1, q2⟩ := h x (List.mem_cons_self ..) b h0
    have q3 : f b x ≤ 2 ^ (j + k) := by
      rw [Int.pow_add]
      exact Int.le_trans q2 (Int.mul_le_mul_of_nonneg_right h1 (Int.le_of_lt (Int.pow_pos (by decide))))
    have := fold_bound k (j := j + k) (fun y hy => h y (List.mem_cons_of_mem _ hy)) q1 q3
    rw [List.foldl_cons, List.length_cons, show j + k * (l.length + 1) = j + k + k * l.length by rw [Nat.mul_add]; omega]
    exact this
theorem getA_mem {α : Type} [Inhabited α] : ∀ {kvs : List (Str × α)} {k : Str}, hasA kvs k = true → ∃ q ∈ kvs, q.1 = k ∧ q.2 = getA kvs k
  | [], k, h => by cases h
  | p :: kvs, k, h => by
    by_cases c : p.1 = k
    · refine ⟨p, List.mem_cons_self .., c, ?_⟩
      unfold getA
      rw [List.find?_cons_of_pos (by simpa using c)]
      rfl
    · have h' : hasA kvs k = true := by
        unfold hasA at h ⊢
        rw [List.any_cons, decide_eq_false c, Bool.false_or] at h
        exact h
      obtain ⟨q, q1, q2, q3⟩ := getA_mem h'
      refine ⟨q, List.mem_cons_of_mem _ q1, q2, ?_⟩
      rw [q3]
      unfold getA
      rw [List.find?_cons_of_neg (by simpa using c)]
theorem colsP_bound {cs : List (Str × Int)} (h : cs.length ≤ 2 ∧ ∀ c ∈ cs, 0 ≤ c.2 ∧ c.2 ≤ 3) (i : Nat) : 0 ≤ colsP (cs.take i) ∧ colsP (cs.take i) ≤ 2 ^ 4 := by
  have := fold_bound (f := fun (m : Int) (z : Str × Int) => m * (z.2 + 1)) 2 (l := cs.take i) (b := 1) (j := 0) (fun x hx b hb => by
    obtain ⟨h1, h2⟩ := h.2 x (List.mem_of_mem_take hx)
    exact ⟨Int.mul_nonneg hb (by omega), Int.mul_le_mul_of_nonneg_left (by omega) hb⟩) (by decide) (by decide)
  refine ⟨this.1, Int.le_trans this.2 ?_⟩
  have hl : (cs.take i).length ≤ 2 := by rw [List.length_take]; omega
  exact p2_le (by omega)
theorem many_bound {s : Sch} (w : WfS s) : ∀ {n : Nat} {p : Str} (i : Nat), hasA s.fields p = true ∨ getA s.fields p = [] → (∀ q, 0 ≤ many n s q ∧ many n s q ≤ 2 ^ bM n) → 0 ≤ (s.marks.take i).foldl (manyStep (many n s) p) (colsP (getA s.fields p)) ∧ (s.marks.take i).foldl (manyStep (many n s) p) (colsP (getA s.fields p)) ≤ 2 ^ bM (n + 1) := by
  intro n p i hf hb
  have hc : 0 ≤ colsP (getA s.fields p) ∧ colsP (getA s.fields p) ≤ 2 ^ 4 := by
    rcases hf with hf | hf
    · obtain ⟨q, q1, _, q3⟩ := getA_mem hf
      have := colsP_bound (w.cols q q1) q.2.length
      rw [List.take_length, q3] at this
      exact this
    · rw [hf]; decide
  have := fold_bound (f := manyStep (many n s) p) (bM n + 1) (l := s.marks.take i) (fun z hz b h0 => by
    unfold manyStep
    by_cases c : ((decide (z.2 ∈ (["!", "?"] : (List Str)))) && (decide ((above z.1) = p))) = true
    · rw [if_pos c]
      obtain ⟨b1, b2⟩ := hb z.1
      have b3 : (if (decide (z.2 = "?")) then (1 : Int) else 0) ≤ 1 ∧ 0 ≤ (if (decide (z.2 = "?")) then (1 : Int) else 0) := by split <;> omega
      refine ⟨Int.mul_nonneg h0 (by omega), Int.mul_le_mul_of_nonneg_left ?_ h0⟩
      rw [Int.pow_succ]
      have : (1 : Int) ≤ 2 ^ bM n := p2_one _
      omega
    · rw [if_neg c]
      refine ⟨h0, ?_⟩
      have : (1 : Int) ≤ 2 ^ (bM n + 1) := p2_one _
      calc b = b * 1 := by omega
        _ ≤ _ := Int.mul_le_mul_of_nonneg_left this h0) hc.1 hc.2
  refine ⟨this.1, Int.le_trans this.2 (p2_le ?_)⟩
  have hl : (s.marks.take i).length ≤ 7 := by rw [List.length_take]; have := w.few; omega
  show 4 + (bM n + 1) * (s.marks.take i).length ≤ 4 + 7 * (bM n + 1)
  rw [Nat.mul_comm]
  exact Nat.add_le_add_left (Nat.mul_le_mul_right _ hl) _
theorem has_or {s : Sch} {p : Str} : hasA s.fields p = true ∨ getA s.fields p = [] := by
  cases h : hasA s.fields p with
  | true => exact .inl rfl
  | false =>
    right
    unfold hasA at h
    unfold getA
    rw [List.find?_eq_none.mpr (by simpa [List.any_eq_false] using h)]
    rfl
theorem many_all {s : Sch} (w : WfS s) : ∀ (n : Nat) (q : Str), 0 ≤ many n s q ∧ many n s q ≤ 2 ^ bM n
  | 0, q => ⟨show (0 : Int) ≤ 1 by decide, show (1 : Int) ≤ 2 ^ 0 by decide⟩
  | n + 1, q => by
    have := many_bound w (p := q) s.marks.length has_or (many_all w n)
    rw [List.take_length] at this
    exact this
theorem log_le {x : Int} {k : Nat} (h0 : 0 ≤ x) (h : x ≤ 2 ^ k) : x.natAbs.log2 ≤ k := by
  rw [← Nat.lt_succ_iff]
  by_cases e : x.natAbs = 0
  · rw [e]; simp
  · rw [Nat.log2_lt e]
    have : x.natAbs ≤ 2 ^ k := by
      have h2 : (x.natAbs : Int) ≤ ((2 ^ k : Nat) : Int) := by rw [Int.natAbs_of_nonneg h0]; simpa using h
      exact_mod_cast h2
    exact Nat.lt_of_le_of_lt this (Nat.pow_lt_pow_right (by decide) (by omega))
theorem bM_le {n : Nat} (h : n ≤ 6) : bM n ≤ 300000 := by
  match n, h with
  | 0, _ | 1, _ | 2, _ | 3, _ | 4, _ | 5, _ | 6, _ => decide
def W_Schema_how_many_b1 (fu : Nat) (self : Sch) (path : Str) (many2 : Int) (z : (Str × Int)) (P : Int → Prop) (nx : Int → Prop) : Prop :=
  (CMulW many2 (z.2 + 1)) ∧ ∀ many3 : Int, many3 = (many2 * (z.2 + 1)) → nx many3
def W_Schema_how_many_k3 (fu : Nat) (self : Sch) (path : Str) (many5 : Int) (P : Int → Prop) (nx2 : Int → Prop) : Prop :=
  nx2 many5
def W_Schema_how_many_b2 (fu : Nat) (self : Sch) (path : Str) (many4 : Int) (z2 : (Str × Str)) (P : Int → Prop) (nx2 : Int → Prop) : Prop :=
  ((decide (z2.2 ∈ (["!", "?"] : (List Str)))) = true → pre_above z2.1) ∧ (if ((decide (z2.2 ∈ (["!", "?"] : (List Str)))) && (decide ((above z2.1) = path))) = true then ((pre_many fu self z2.1) ∧ (CMulW many4 ((Sch.howMany self z2.1) + (if (decide (z2.2 = "?")) then (1 : Int) else 0))) ∧ ∀ many6 : Int, many6 = (many4 * ((Sch.howMany self z2.1) + (if (decide (z2.2 = "?")) then (1 : Int) else 0))) → W_Schema_how_many_k3 fu self path many6 P nx2) else (W_Schema_how_many_k3 fu self path many4 P nx2))
def W_Schema_how_many_k2 (fu : Nat) (many4 : Int) (P : Int → Prop) : Prop :=
  P many4
def W_Schema_how_many_k1 (fu : Nat) (self : Sch) (path : Str) (many2 : Int) (P : Int → Prop) : Prop :=
  ∃ Inv2 : Nat → Int → Prop, Inv2 0 many2 ∧ (∀ (i : Nat) (z2 : (Str × Str)) (many4 : Int), self.marks[i]? = some z2 → Inv2 i many4 → W_Schema_how_many_b2 fu self path many4 z2 P (Inv2 (i + 1))) ∧ (∀ (many4 : Int), Inv2 self.marks.length many4 → W_Schema_how_many_k2 fu many4 P)
def W_Schema_how_many (fu : Nat) (self : Sch) (path : Str) (P : Int → Prop) : Prop :=
  (hasA self.fields path = true) ∧ ∃ Inv : Nat → Int → Prop, Inv 0 1 ∧ (∀ (i : Nat) (z : (Str × Int)) (many2 : Int), (getA self.fields path)[i]? = some z → Inv i many2 → W_Schema_how_many_b1 fu self path many2 z P (Inv (i + 1))) ∧ (∀ (many2 : Int), Inv (getA self.fields path).length many2 → W_Schema_how_many_k1 fu self path many2 P)
theorem dW_Schema_how_many {fu : Nat} {s : Sch} {p : Str} (hp : pre_many (fu + 1) s p) (P : Int → Prop) (h : P (s.howMany p)) : W_Schema_how_many fu s p P := by
  rw [howMany_eq hp] at h
  obtain ⟨hf, w, hh, hz⟩ := hp
  obtain ⟨q, q1, _, q3⟩ := getA_mem hh
  have wc := w.cols q q1
  rw [q3] at wc
  refine ⟨hh, fun i m => m = colsP ((getA s.fields p).take i), rfl, ?_, ?_⟩
  · rintro i z m hi rfl
    have b := colsP_bound wc i
    have zc := wc.2 z (List.mem_of_getElem? hi)
    refine ⟨?_, fun m2 hm2 => ?_⟩
    · have l1 := log_le b.1 b.2
      have l2 := log_le (x := z.2 + 1) (k := 2) (by omega) (by omega)
      show _ + _ < 1000000
      omega
    · show m2 = _
      rw [hm2]
      unfold colsP
      rw [take_fold _ _ _ hi]
  · rintro m rfl
    rw [List.take_length]
    refine ⟨fun i m => m = (s.marks.take i).foldl (manyStep (many fu s) p) (colsP (getA s.fields p)), rfl, ?_, ?_⟩
    · rintro i z m hi rfl
      have hm := List.mem_of_getElem? hi
      have st : (s.marks.take (i + 1)).foldl (manyStep (many fu s) p) (colsP (getA s.fields p)) = manyStep (many fu s) p ((s.marks.take i).foldl (manyStep (many fu s) p) (colsP (getA s.fields p))) z := take_fold _ _ _ hi
      refine ⟨fun _ => sz_of (by have := w.short z hm; omega), ?_⟩
      by_cases c : ((decide (z.2 ∈ (["!", "?"] : (List Str)))) && (decide ((above z.1) = p))) = true
      · rw [if_pos c]
        have c' := c
        rw [Bool.and_eq_true] at c'
        have pm := hz z hm c'.1 (of_decide_eq_true c'.2)
        refine ⟨pm, ?_, fun m6 hm6 => ?_⟩
        · have b1 := many_bound w (n := fu) (p := p) i has_or (many_all w fu)
          have l1 := log_le b1.1 b1.2
          rw [howMany_eq pm]
          have b2 := many_all w fu z.1
          have b3 : (if (decide (z.2 = "?")) then (1 : Int) else 0) ≤ 1 ∧ 0 ≤ (if (decide (z.2 = "?")) then (1 : Int) else 0) := by split <;> omega
          have l2 := log_le (x := many fu s z.1 + (if (decide (z.2 = "?")) then (1 : Int) else 0)) (k := bM fu + 1) (by omega) (by
            rw [Int.pow_succ]
            have : (1 : Int) ≤ 2 ^ bM fu := p2_one _
            omega)
          have e1 := bM_le hf
          have e2 := bM_le (show fu ≤ 6 by omega)
          show _ + _ < 1000000
          omega
        · show m6 = _
          rw [st, hm6, howMany_eq pm]
          unfold manyStep
          rw [if_pos c]
      · rw [if_neg c]
        show _ = _
        rw [st]
        unfold manyStep
        rw [if_neg c]
    · rintro m rfl
      rw [List.take_length]
      exact h
def sp_Schema_how_many (fu : Nat) (K : PySem.W.Frag) (a : Ad) : Sp := spF K (fun (x : Sch × Str) => [(eSch a.C_Schema) x.1, D.str x.2]) D.int (fun (x : Sch × Str) => pre_many fu x.1 x.2) (fun (x : Sch × Str) => Sch.howMany x.1 x.2)
theorem cd_Schema_how_many {E : XK} (fu : Nat) (self : Sch) (path : Str) (hp : pre_many fu self path) : CaD K (fun vs H Q => sp_Schema_how_many fu K a vs H Q E) [.im ((eSch a.C_Schema) self), .im (D.str path)] (.im (D.int (Sch.howMany self path))) := cd_fn (ens := (fun (x : Sch × Str) => [(eSch a.C_Schema) x.1, D.str x.2])) (er := D.int) (self, path) hp
theorem sc_Schema_how_many : FnScope ["self", "path", "many", "name", "top", "other", "mark"] ["self", "path"] (defScope s_Schema_how_many) := ⟨rfl, rfl, rfl, by decide +kernel, rfl, by decide +kernel, by decide +kernel⟩
theorem ok_Schema_how_many_step (T : Txt K mg a) (fu : Nat) (ih : FnOk P w K mg base CX0 (2 + fu) a.f_Schema_how_many a.d_Schema_how_many ["self", "path"] (sp_Schema_how_many fu K a)) : FnOk P w K mg base CX0 (2 + (fu + 1)) a.f_Schema_how_many a.d_Schema_how_many ["self", "path"] (sp_Schema_how_many (fu + 1) K a) := by
  refine T.F_Schema_how_many.ok (k := 2 + fu) sc_Schema_how_many (fun vs H Q E h => ?_) (fun cdv A outer s H vs Q E hr h => ?_)
  · obtain ⟨M0, x, w0, hx, _⟩ := h
    exact hx.len
  · obtain ⟨M0, x, w0, hx, hp, kq⟩ := h
    obtain ⟨self, path⟩ := x
    have hx : rDs K (Fx M0 H) [(eSch a.C_Schema) self, D.str path] vs := hx
    obtain ⟨v2, _, rfl, h3, v, _, rfl, h2, rfl⟩ := hx
    obtain ⟨Y, eY⟩ : ∃ Y : List Addr, Y = [] := ⟨_, rfl⟩
    have g : Gd M0 [] Y H H := Gd.start w0 (by rw [eY]; exact fun y h => nomatch h)
    have h3 : rV K (mxM M0 []) H (.im ((eSch a.C_Schema) self)) v2 := rV.lx Gd.lx0 (show rV K M0 H (.im ((eSch a.C_Schema) self)) v2 from h3)
    cases (show v = (V.str path) from h2)
    obtain ⟨P, eP⟩ : ∃ P : Int → Prop, P = fun r => r = Sch.howMany self path := ⟨_, rfl⟩
    have kk : ∀ r v H2, P r → Wd M0 H2 → Same H H2 → rD K (Fx M0 H2) (D.int r) v → Q v H2 := fun r v H2 e => by rw [eP] at e; rw [show r = Sch.howMany self path from e]; exact kq v H2
    have hw : W_Schema_how_many fu self path P := dW_Schema_how_many hp P (by rw [eP])
    unfold W_Schema_how_many at hw
    have hu := hu_of hr
    refine ⟨_, (pss_cons (ps_set (i := 2) sc_Schema_how_many.nd rfl (.inl rfl) pe_int)
      (pss_cons (ps_for PassesOwn.never rfl (pi_list (pe_dget hu (pe_fld (pv 0) rfl) (pv 1) (fun _ _ => rfl))) (pg_tup rfl (pgs_cons (pg_name (i := 3) sc_Schema_how_many.nd rfl (.inl rfl)) (pgs_cons (pg_name (i := 4) sc_Schema_how_many.nd rfl (.inl rfl)) pgs_nil)))
      (pss_cons (ps_aug (i := 2) sc_Schema_how_many.nd rfl (.inl rfl) (pe_op op_add (pv 4) pe_int) ip_mulW)
      pss_nil))
      (pss_cons (ps_for PassesOwn.never rfl (pi_items (pe_fld (pv 0) rfl)) (pg_tup rfl (pgs_cons (pg_name (i := 5) sc_Schema_how_many.nd rfl (.inl rfl)) (pgs_cons (pg_name (i := 6) sc_Schema_how_many.nd rfl (.inl rfl)) pgs_nil)))
      (pss_cons (ps_if (PW.pt (pw_and (pt_cmpR op_in_seq (pv 6) (pe_tupS (pa_cons pe_str (pa_cons pe_str pa_nil))) rfl) (pw_and1 (pt_cmpR op_eq (pe_call (ok_path_above T) (hr.mono (by omega)) rfl T.m_path_above T.k_path_above T.a_path_above .nil pass0 (pa_cons (pv 5) pa_nil)) (pv 1) (nomark _))))) (pss_cons (ps_aug (i := 2) sc_Schema_how_many.nd rfl (.inl rfl) (pe_op op_add (pe_meth (pv 0) T.c_Schema T.t_Schema_how_many ih (hr.mono (by omega)) T.a_Schema_how_many .nil pass0 (pa_cons (pv 5) pa_nil)) (pe_callTy call_int1 (by rfl) T.b_int (by decide +kernel) (pa_cons (pe_cmpR op_eq (pv 6) pe_str (nomark _)) pa_nil))) ip_mulW)
      pss_nil) pss_nil)
      pss_nil))
      (pss_cons (ps_ret (pv 2))
      pss_nil)))), ?_⟩
    refine st_set ?_
    refine EV.go (K := K) (d := (.im (D.int 1))) ev_int g.wd fun v3 H2 wd s2 h4 => ?_
    have g2 := g.same s2
    cases (show v3 = (V.int 1) from h4)
    refine st_for ?_
    have h5 : rV K (mxM M0 []) H2 (.im ((eSch a.C_Schema) self)) v2 := (h3.same s2)
    obtain ⟨c2, hw⟩ := hw
    refine EVI.gom (K := K) (en := (eP2 D.str D.int)) (xs := (getA self.fields path)) (evi_list (es := List.map (eP2 D.str D.int) (getA self.fields path)) (ev_kget (en := (eL (eP2 D.str D.int))) (kvs := self.fields) (k := path) (ev_fld 2 (ev_var (d := (.im ((eSch a.C_Schema) self))) (i := 0) rfl h5) T.c_Schema T.n_Schema_fields (by decide) rfl rfl) (ev_vs (i := 1) rfl) c2)) g2.wd fun J H3 wd2 s3 wk => ?_
    have g3 := g2.same s3
    obtain ⟨Inv, hI, hI2, hI3⟩ := hw
    refine st_forit wk (fun i σ' H' => ∃ (many2 : Int) (o : Option V) (o2 : Option V), σ' = [some v2, some (V.str path), some (V.int many2), o, o2, none, none] ∧ Gd M0 [] Y H H' ∧ Lx (mxM M0 []) (mxM M0 []) H3 H' ∧ Inv i many2) ⟨1, _, _, rfl, g3, Lx.refl, hI⟩ (fun i σ' H' _ ⟨_, _, _, _, _, hl, _⟩ => ⟨_, hl⟩) ?_ ?_
    · rintro i x2 σ' H4 H5 hi ⟨many2, o, o2, rfl, g4, l, hI4⟩ yd
      obtain ⟨z, hy, s4, hr2⟩ := yd_map yd
      have hw := hI2 i z  many2 hy hI4
      have hr2 := hr2 _ g4.wd l
      have g5 := g4.same s4
      refine g_tup2 (d1 := D.str z.1) (d2 := D.int z.2) hr2 fun v4 v5 h6 h7 => ?_
      cases (show v4 = (V.str z.1) from h6)
      cases (show v5 = (V.int z.2) from h7)
      unfold W_Schema_how_many_b1 at hw
      obtain ⟨c3, hw⟩ := hw
      refine st_aug (K := K) (d := (.im (D.int many2))) (en := D.int) (x0 := (many2 * (z.2 + 1))) rfl rfl (ev_op (ev_vi (i := 4) rfl) ev_int od_add) (od_mulW c3) g5.wd fun many3 e v6 H6 wd3 s5 h8 => ?_
      have hw := hw many3 e
      have g6 := g5.same s5
      cases (show v6 = (V.int many3) from h8)
      exact ⟨many3, _, _, rfl, g6, ((l.trans (Lx.same s4)).trans (Lx.same s5)), hw⟩
    · rintro σ' H7 ⟨many2, o, o2, rfl, g7, l2, hI5⟩
      have hw := hI3 many2 hI5
      unfold W_Schema_how_many_k1 at hw
      refine st_for ?_
      have h9 : rV K (mxM M0 []) H7 (.im ((eSch a.C_Schema) self)) v2 := (rV.lx l2 (h5.same s3))
      refine EVI.gom (K := K) (en := (eP2 D.str D.str)) (xs := self.marks) (evi_items (en := D.str) (kvs := self.marks) (ev_fld 1 (ev_var (d := (.im ((eSch a.C_Schema) self))) (i := 0) rfl h9) T.c_Schema T.n_Schema_marks (by decide) rfl rfl)) g7.wd fun J2 H8 wd4 s6 wk2 => ?_
      have g8 := g7.same s6
      obtain ⟨Inv2, hI6, hI7, hI8⟩ := hw
      refine st_forit wk2 (fun i σ' H' => ∃ (many4 : Int) (o3 : Option V) (o4 : Option V), σ' = [some v2, some (V.str path), some (V.int many4), o, o2, o3, o4] ∧ Gd M0 [] Y H H' ∧ Lx (mxM M0 []) (mxM M0 []) H8 H' ∧ Inv2 i many4) ⟨many2, _, _, rfl, g8, Lx.refl, hI6⟩ (fun i σ' H' _ ⟨_, _, _, _, _, hl, _⟩ => ⟨_, hl⟩) ?_ ?_
      · rintro i2 x3 σ' H9 H10 hi2 ⟨many4, o3, o4, rfl, g9, l3, hI9⟩ yd2
        obtain ⟨z2, hy2, s7, hr3⟩ := yd_map yd2
        have hw := hI7 i2 z2  many4 hy2 hI9
        have hr3 := hr3 _ g9.wd l3
        have g10 := g9.same s7
        refine g_tup2 (d1 := D.str z2.1) (d2 := D.str z2.2) hr3 fun v7 v8 h10 h11 => ?_
        cases (show v7 = (V.str z2.1) from h10)
        cases (show v8 = (V.str z2.2) from h11)
        unfold W_Schema_how_many_b2 at hw
        try dsimp only [gName]
        refine if_cut (fun σ' H' => ∃ (many5 : Int), σ' = [some v2, some (V.str path), some (V.int many5), o, o2, some (V.str z2.1), some (V.str z2.2)] ∧ Gd M0 [] Y H H' ∧ Lx (mxM M0 []) (mxM M0 []) H10 H' ∧ W_Schema_how_many_k3 fu self path many5 P (Inv2 (i2 + 1))) (fun nx hnx => ?_) ?_
        · obtain ⟨c5, hw⟩ := hw
          refine EVT.go (b := ((decide (z2.2 ∈ (["!", "?"] : (List Str)))) && (decide ((above z2.1) = path)))) (evt_and (evt_test (K := K) (ev_op (ev_vs (i := 6) rfl) (ev_tup (ds := [D.str "!", D.str "?"]) (eva_cons ev_str (eva_cons ev_str eva_nil)) (Nat.le_of_ble_eq_true rfl)) (od_inS (xs := (["!", "?"] : (List Str))) (.inr rfl)))) fun hb => (evt_test (K := K) (ev_op (ev_call (eva_cons (ev_vs (i := 5) rfl) eva_nil) (cd_path_above z2.1 (c5 hb))) (ev_vs (i := 1) rfl) od_eqS))) g10.wd fun H11 wd5 s8 => ?_
          have g11 := g10.same s8
          refine wite hw (fun hw => ?_) (fun hw => ?_)
          · skip
            have h12 : rV K (mxM M0 []) H11 (.im ((eSch a.C_Schema) self)) v2 := (((rV.lx l3 (h9.same s6)).same s7).same s8)
            obtain ⟨c6, c7, hw⟩ := hw
            refine st_aug (K := K) (d := (.im (D.int many4))) (en := D.int) (x0 := (many4 * ((Sch.howMany self z2.1) + (if (decide (z2.2 = "?")) then (1 : Int) else 0)))) rfl rfl (ev_op (ev_meth (ev_var (d := (.im ((eSch a.C_Schema) self))) (i := 0) rfl h12) (by decide) (eva_cons (ev_vs (i := 5) rfl) eva_nil) (cd_Schema_how_many fu self z2.1 c6)) (ev_cb (eva_cons (ev_op (ev_vs (i := 6) rfl) ev_str od_eqS) eva_nil) cd_intB) od_add) (od_mulW c7) g11.wd fun many6 e2 v9 H12 wd6 s9 h13 => ?_
            have hw := hw many6 e2
            have g12 := g11.same s9
            cases (show v9 = (V.int many6) from h13)
            exact hnx _ _ ⟨many6, rfl, g12, ((Lx.same s8).trans (Lx.same s9)), hw⟩
          · skip
            exact hnx _ _ ⟨many4, rfl, g11, (Lx.same s8), hw⟩
        rintro σ' H13 ⟨many5, rfl, g13, l4, hw⟩
        exact ⟨many5, _, _, rfl, g13, ((l3.trans (Lx.same s7)).trans l4), hw⟩
      · rintro σ' H14 ⟨many4, o3, o4, rfl, g14, l5, hI10⟩
        have hw := hI8 many4 hI10
        unfold W_Schema_how_many_k2 at hw
        refine st_ret ?_
        refine EV.go (K := K) (d := (.im (D.int many4))) (ev_vi (i := 2) rfl) g14.wd fun v10 H15 wd7 s10 h14 => ?_
        have g15 := g14.same s10
        exact kk _ _ _ hw g15.w_end (Bu.nil g15.bu eY) (rV.lx Gd.lx_end h14)
theorem ok_Schema_how_many (T : Txt K mg a) : ∀ fu : Nat, FnOk P w K mg base CX0 (2 + fu) a.f_Schema_how_many a.d_Schema_how_many ["self", "path"] (sp_Schema_how_many fu K a)
  | 0 => T.F_Schema_how_many.ok (k := 1) sc_Schema_how_many (fun vs H Q E h => by obtain ⟨M0, x, w0, hx, _⟩ := h; exact hx.len) (fun cdv A outer s H vs Q E hr h => by obtain ⟨M0, x, w0, hx, hp, kq⟩ := h; exact (no_Schema_how_many hp).elim)
  | fu + 1 => ok_Schema_how_many_step T fu (ok_Schema_how_many T fu)

end
end Toy

set_option Elab.async false
set_option linter.all false
set_option maxRecDepth 100000
set_option maxHeartbeats 4000000
set_option pp.maxSteps 300
set_option pp.deepTerms false
namespace Toy
open PySem L2 Lf
section
variable {P : Program} {w : World} {K : PySem.W.Frag} {mg : Str → Option Value} {base : Heap} {a : Ad}

def Sch.put (s : Sch) (f : Str × Str × List (Str × Int)) : Sch := ⟨s.text, putA s.marks f.1 f.2.1, putA s.fields f.1 f.2.2⟩
def Sch.full (s : Sch) : Bool := ((s.heads.map fun head => (decide (16 < (s.howMany head)))).any id)
def stepS (acc : Except Int Sch) (z : Int × Str) : Except Int Sch := match acc with
  | .error e => .error e
  | .ok s => if ((readLine z.2 (decide (z.1 = 0))).isNone || ((decide (z.1 = 6)) || (!(Sch.admits s ((getO (readLine z.2 (decide (z.1 = 0)))).1) (decide (z.1 = 0)))))) = true then .error z.1
    else if (s.put (getO (readLine z.2 (decide (z.1 = 0))))).full = true then .error z.1 else .ok (s.put (getO (readLine z.2 (decide (z.1 = 0)))))
def linesOf (t : Str) : List (Int × Str) := enumI (Txt.split t "\n")
def parseS (t : Str) : Except Int Sch := (linesOf t).foldl stepS (.ok ⟨t, [], []⟩)
/-- what the reading of a line asks -/
structure LineOk (s : Sch) (z : Int × Str) : Prop where
  line : pre_rline z.2 (decide (z.1 = 0))
  adm : ∀ f, readLine z.2 (decide (z.1 = 0)) = some f → z.1 ≠ 6 → pre_admits s f.1 (decide (z.1 = 0))
  few : s.marks.length < sizeLine ∧ s.fields.length < sizeLine
  hds : ∀ f, readLine z.2 (decide (z.1 = 0)) = some f → z.1 ≠ 6 → s.admits f.1 (decide (z.1 = 0)) = true → pre_shds (s.put f) ∧ (s.put f).heads.length ≤ sizeLine ∧ ∀ head ∈ (s.put f).heads, pre_many 4 (s.put f) head
def ParseOk (t : Str) : Prop := t.length + 2 ≤ sizeLine ∧ ∀ i z s, (linesOf t)[i]? = some z → ((linesOf t).take i).foldl stepS (.ok ⟨t, [], []⟩) = .ok s → LineOk s z
theorem stepS_err (zs : List (Int × Str)) (e : Int) : zs.foldl stepS (.error e) = .error e := by
  induction zs with
  | nil => rfl
  | cons z zs ih => exact ih
theorem parse_err {t : Str} {i : Nat} {z : Int × Str} {s : Sch} {e : Int} (hz : (linesOf t)[i]? = some z) (hs : ((linesOf t).take i).foldl stepS (.ok ⟨t, [], []⟩) = .ok s) (h : stepS (.ok s) z = .error e) : parseS t = .error e := by
  unfold parseS
  rw [← List.take_append_drop (i + 1) (linesOf t), List.foldl_append, take_fold _ _ _ hz, hs, h, stepS_err]
/-- Schema(t) -/
def spInit (K : PySem.W.Frag) (a : Ad) : Sp := fun vs H Q E => ∃ (M : Addr → Prop) (x dx : Addr) (t : Str), vs = [.ref x, .str t] ∧ Wd M H ∧ M x ∧ H x = some (.ins a.C_Schema dx []) ∧ ParseOk t ∧
  (∀ s H2, parseS t = .ok s → Wd M H2 → Bu [x] H H2 → rD K (Fx (fun q => M q ∧ q ≠ x) H2) (eSch a.C_Schema s) (.ref x) → Q .non H2) ∧
  (∀ e d H2, parseS t = .error e → H d = none → Wd M H2 → Bu [x] H H2 → H2 d = some (.xd [("at", .int e)]) → E (.ref a.C_BadSchema) (some d) H2)
def fld1 (t : Str) : List (Str × V) := [("text", .str t)]
def fld2 (t : Str) (m : Addr) : List (Str × V) := [("text", .str t), ("marks", .ref m)]
def fldS (t : Str) (m f : Addr) : List (Str × V) := [("text", .str t), ("marks", .ref m), ("fields", .ref f)]
theorem sc_Schema__init : FnScope ["self", "text", "at", "line", "found", "path", "mark", "columns", "head"] ["self", "text"] (defScope s_Schema__init) := ⟨rfl, rfl, rfl, by decide +kernel, rfl, by decide +kernel, by decide +kernel⟩
/-- the walk's state -/
structure InS (K : PySem.W.Frag) (a : Ad) (M : Addr → Prop) (H0 : Hp) (x dx m f : Addr) (t : Str) (s : Sch) (H : Hp) : Prop where
  wd : Wd (mxM M [m, f]) H
  bu : Bu [x] H0 H
  nw : H0 m = none ∧ H0 f = none
  mf : m ≠ f
  mx : m ≠ x ∧ f ≠ x
  at_ : H x = some (.ins a.C_Schema dx (fldS t m f))
  tx : s.text = t
  rm : rV K (mxM M [m, f]) H (.md m (s.marks.map (enA D.str))) (.ref m)
  rf : rV K (mxM M [m, f]) H (.md f (s.fields.map (enA (eL (eP2 D.str D.int))))) (.ref f)
theorem InS.same {K : PySem.W.Frag} {a : Ad} {M : Addr → Prop} {H0 : Hp} {x dx m f : Addr} {t : Str} {s : Sch} {H H' : Hp} (h : InS K a M H0 x dx m f t s H) (e : Same H H') : InS K a M H0 x dx m f t s H' := ⟨h.wd.same e, h.bu.trans (Bu.same e), h.nw, h.mf, h.mx, e _ _ h.at_, h.tx, rV.same e h.rm, rV.same e h.rf⟩
theorem InS.w0 {K : PySem.W.Frag} {a : Ad} {M : Addr → Prop} {H0 : Hp} {x dx m f : Addr} {t : Str} {s : Sch} {H : Hp} (h : InS K a M H0 x dx m f t s H) : Wd M H := fun q hq => h.wd q (.inl hq)
theorem InS.nM {K : PySem.W.Frag} {a : Ad} {M : Addr → Prop} {H0 : Hp} {x dx m f : Addr} {t : Str} {s : Sch} {H : Hp} (h : InS K a M H0 x dx m f t s H) (w : Wd M H0) : ¬ M m ∧ ¬ M f := ⟨w.free h.nw.1, w.free h.nw.2⟩
/-- self, where both dicts are locked -/
theorem InS.self {K : PySem.W.Frag} {a : Ad} {M : Addr → Prop} {H0 : Hp} {x dx m f : Addr} {t : Str} {s : Sch} {H Hl : Hp} {ws us : List (Key × V)} {om ou : Obj} (h : InS K a M H0 x dx m f t s H) (w0 : Wd M H0) (hm : H m = some (.dK ws)) (hf : H f = some (.dK us))
    (l1 : Hl m = some (.frz om (.dK ws))) (l2 : Hl f = some (.frz ou (.dK us))) (ln : ∀ q, q ≠ m → q ≠ f → Hl q = H q) : rD K (Fx (fun q => M q ∧ q ≠ x) Hl) (eSch a.C_Schema s) (.ref x) := by
  obtain ⟨n1, n2⟩ := h.nM w0
  have lx : Lx (mxM M [m, f]) (fun q => M q ∧ q ≠ x) H Hl := fun q o z => by
    have z1 : q ≠ m := fun e => z.2 (.inr (by rw [e]; simp))
    have z2 : q ≠ f := fun e => z.2 (.inr (by rw [e]; simp))
    exact ⟨by rw [ln q z1 z2]; exact z.1, fun y => z.2 (.inl y.1)⟩
  obtain ⟨_, ws', r1, r2, r3⟩ := h.rm
  rw [hm] at r1
  cases r1
  obtain ⟨_, us', q1, q2, q3⟩ := h.rf
  rw [hf] at q1
  cases q1
  refine ⟨x, dx, fldS t m f, rfl, ⟨by rw [ln x (Ne.symm h.mx.1) (Ne.symm h.mx.2)]; exact h.at_, fun z => z.2 rfl⟩, rfl, ?_⟩
  refine ⟨_, _, rfl, (by rw [h.tx]; rfl), _, _, rfl, ⟨m, om, ws, rfl, ⟨l1, fun z => n1 z.1⟩, ?_, ?_⟩, _, _, rfl, ⟨f, ou, us, rfl, ⟨l2, fun z => n2 z.1⟩, ?_, ?_⟩, rfl⟩
  · rw [r2, List.map_map]; rfl
  · have := rDs.mono lx _ _ r3
    rw [List.map_map] at this
    exact this
  · rw [q2, List.map_map]; rfl
  · have := rDs.mono lx _ _ q3
    rw [List.map_map] at this
    exact this
theorem InS.lxl {K : PySem.W.Frag} {a : Ad} {M : Addr → Prop} {H0 : Hp} {x dx m f : Addr} {t : Str} {s : Sch} {H Hl : Hp} (h : InS K a M H0 x dx m f t s H) (ln : ∀ q, q ≠ m → q ≠ f → Hl q = H q) : Lx (mxM M [m, f]) (fun q => M q ∧ q ≠ x) H Hl := fun q o z => by
  have z1 : q ≠ m := fun e => z.2 (.inr (by rw [e]; simp))
  have z2 : q ≠ f := fun e => z.2 (.inr (by rw [e]; simp))
  exact ⟨by rw [ln q z1 z2]; exact z.1, fun y => z.2 (.inl y.1)⟩
theorem InS.putm {K : PySem.W.Frag} {a : Ad} {M : Addr → Prop} {H0 : Hp} {x dx m f : Addr} {t : Str} {s : Sch} {H : Hp} {p : Str} {y : Str} {ws : List (Key × V)} (h : InS K a M H0 x dx m f t s H) (r : rV K (mxM M [m, f]) (upd H m (.dK ws)) (.md m ((putA s.marks p y).map (enA D.str))) (.ref m)) : InS K a M H0 x dx m f t ⟨s.text, putA s.marks p y, s.fields⟩ (upd H m (.dK ws)) :=
  ⟨h.wd.upd, fun q o e n => by rw [upd_ne (ne_of_none e h.nw.1)]; exact h.bu q o e n, h.nw, h.mf, h.mx, by rw [upd_ne (Ne.symm h.mx.1)]; exact h.at_, h.tx, r, mu_upd h.rf rfl (Ne.symm h.mf) (by simp)⟩
theorem InS.putf {K : PySem.W.Frag} {a : Ad} {M : Addr → Prop} {H0 : Hp} {x dx m f : Addr} {t : Str} {s : Sch} {H : Hp} {p : Str} {y : List (Str × Int)} {ws : List (Key × V)} (h : InS K a M H0 x dx m f t s H) (r : rV K (mxM M [m, f]) (upd H f (.dK ws)) (.md f ((putA s.fields p y).map (enA (eL (eP2 D.str D.int))))) (.ref f)) : InS K a M H0 x dx m f t ⟨s.text, s.marks, putA s.fields p y⟩ (upd H f (.dK ws)) :=
  ⟨h.wd.upd, fun q o e n => by rw [upd_ne (ne_of_none e h.nw.2)]; exact h.bu q o e n, h.nw, h.mf, h.mx, by rw [upd_ne (Ne.symm h.mx.2)]; exact h.at_, h.tx, mu_upd h.rm rfl h.mf (by simp), r⟩
theorem InS.dicts {K : PySem.W.Frag} {a : Ad} {M : Addr → Prop} {H0 : Hp} {x dx m f : Addr} {t : Str} {s : Sch} {H : Hp} (h : InS K a M H0 x dx m f t s H) : ∃ ws us, H m = some (.dK ws) ∧ H f = some (.dK us) := by
  obtain ⟨_, ws, r1, _⟩ := h.rm
  obtain ⟨_, us, q1, _⟩ := h.rf
  exact ⟨ws, us, r1, q1⟩

end
end Toy

set_option Elab.async false
set_option linter.all false
set_option maxRecDepth 100000
set_option maxHeartbeats 4000000
set_option pp.maxSteps 300
set_option pp.deepTerms false
namespace Toy
open PySem L2 Lf
section
variable {P : Program} {w : World} {K : PySem.W.Frag} {mg : Str → Option Value} {base : Heap} {a : Ad}

theorem InS.free0 {K : PySem.W.Frag} {a : Ad} {M : Addr → Prop} {H0 : Hp} {x dx m f : Addr} {t : Str} {s : Sch} {H : Hp} (h : InS K a M H0 x dx m f t s H) {d : Addr} (n : H d = none) : H0 d = none := by
  cases e : H0 d with
  | none => rfl
  | some o =>
    by_cases hx : d = x
    · rw [hx, h.at_] at n; cases n
    · rw [h.bu d o e (by simpa using hx)] at n; cases n
theorem InS.raise {K : PySem.W.Frag} {a : Ad} {M : Addr → Prop} {H0 : Hp} {x dx m f : Addr} {t : Str} {s : Sch} {H H9 H' : Hp} {ws us : List (Key × V)} {om ou : Obj} {d : Addr} (h : InS K a M H0 x dx m f t s H) (hm : H m = some (.dK ws)) (hf : H f = some (.dK us)) (s9 : Same (lk2 H m f ws us om ou) H9) (nd : H9 d = none) (s' : Same H9 H') : H0 d = none ∧ Wd M H' ∧ Bu [x] H0 H' := by
  refine ⟨h.free0 (lk2_free hm hf (s9.free nd)), ((Wd.lk2 h.w0).same s9).same s', fun q o e n => ?_⟩
  have q1 : q ≠ m := ne_of_none e h.nw.1
  have q2 : q ≠ f := ne_of_none e h.nw.2
  exact s' _ _ (s9 _ _ (by rw [lk2_ne q1 q2]; exact h.bu q o e n))
theorem ok_Schema__init (T : Txt K mg a) : FnOk P w K mg base (L2.CX P w) 8 a.f_Schema__init a.d_Schema__init ["self", "text"] (spInit K a) := by
  refine T.F_Schema__init.okX sc_Schema__init (fun vs H Q E h => ?_) (fun cdv A outer s H vs Q E hr h => ?_)
  · obtain ⟨M, x, dx, t, rfl, _⟩ := h
    rfl
  · obtain ⟨M, x, dx, t, rfl, w0, hMx, hx, hpt, kQ, kE⟩ := h
    have hu := hu_of hr
    refine ⟨_, (pss_cons (ps_fld (pv 0) (pv 1) rfl)
      (pss_cons (ps_fld (pv 0) pe_dnewK rfl)
      (pss_cons (ps_fld (pv 0) pe_dnewK rfl)
      (pss_cons (ps_if (pt_not (pt_val (pe_callB call_isi (by rfl) T.b_isinstance (by decide +kernel) (pa_cons (pv 1) (pa_cons (pe_bltn (v := .ty "str") (by rfl) T.b_str (by decide +kernel) rfl) pa_nil))))) (pss_cons (ps_raise rfl (takes_of rfl rfl rfl rfl) (pmk_oex T.e_BadSchema.ox T.f_BadSchema__init T.ty_BadSchema__init (ok_BadSchema__init T) (hr.mono (by decide)) T.a_BadSchema__init .nil pass0 rfl T.m_BadSchema (pa_cons (pe_un un_neg pe_int) pa_nil))) pss_nil) pss_nil)
      (pss_cons (ps_frz (ps_frz (ps_for PassesOwn.leaving rfl (pi_enum (by rfl) T.b_enumerate (pa_cons (pe_split (pv 1) pe_str) pa_nil)) (pg_tup rfl (pgs_cons (pg_name (i := 2) sc_Schema__init.nd rfl (.inl rfl)) (pgs_cons (pg_name (i := 3) sc_Schema__init.nd rfl (.inl rfl)) pgs_nil)))
      (pss_cons (ps_set (i := 4) sc_Schema__init.nd rfl (.inl rfl) (pe_call (ok_read_line T) (hr.mono (by decide)) rfl T.m_read_line T.k_read_line T.a_read_line .nil pass0 (pa_cons (pv 3) (pa_cons (pe_cmpR op_eq (pv 2) pe_int (nomark _)) pa_nil))))
      (pss_cons (ps_lock (ps_lock (ps_if (PW.pt (pw_or (pt_cmpR op_isN1 (pv 4) pe_non (nomark _)) (pw_or (pt_cmpR op_eq (pv 2) (pe_glob (v := .int 6) rfl T.g_MOST_LINES.choose_spec ⟨_, rfl⟩) (nomark _)) (pw_or1 (pt_not (pt_val (pe_meth (pv 0) T.c_Schema T.t_Schema_admits (ok_Schema_admits T) (hr.mono (by decide)) T.a_Schema_admits .nil pass0 (pa_cons (pe_ix ix_tup (pv 4) pe_int (fun _ _ => rfl)) (pa_cons (pe_cmpR op_eq (pv 2) pe_int (nomark _)) pa_nil))))))))) (pss_cons (ps_raise rfl (takes_of rfl rfl rfl rfl) (pmk_oex T.e_BadSchema.ox T.f_BadSchema__init T.ty_BadSchema__init (ok_BadSchema__init T) (hr.mono (by decide)) T.a_BadSchema__init .nil pass0 rfl T.m_BadSchema (pa_cons (pv 2) pa_nil))) pss_nil) pss_nil)))
      (pss_cons (ps_asg (pv 4) (pg_tup rfl (pgs_cons (pg_name (i := 5) sc_Schema__init.nd rfl (.inl rfl)) (pgs_cons (pg_name (i := 6) sc_Schema__init.nd rfl (.inl rfl)) (pgs_cons (pg_name (i := 7) sc_Schema__init.nd rfl (.inl rfl)) pgs_nil)))))
      (pss_cons (ps_dput hu (pe_fld (pv 0) rfl) (pv 5) (pv 6) rfl)
      (pss_cons (ps_dput hu (pe_fld (pv 0) rfl) (pv 5) (pv 7) rfl)
      (pss_cons (ps_lock (ps_lock (ps_if (pt_val (pe_callB (cr_any rfl) (by rfl) T.b_any (by decide +kernel) (pa_cons (pe_lc (own := [("head", 8)]) (g := gName 8) (tt := tYes) (te := (tOp rGtI (tMeth a.C_Schema "how_many" (sp_Schema_how_many 4 K a) [] E0 (tVar 0) (tCons (tVar 8) tNil)) (tC (.int 16)))) rfl sc_Schema__init.nd (pi_list (pe_meth0 (pv 0) T.c_Schema T.t_Schema_heads (ok_Schema_heads T) (hr.mono (by decide)) T.a_Schema_heads .nil pass0 )) (blkOk_by (own := [("head", 8)]) (N := ["self", "text", "at", "line", "found", "path", "mark", "columns", "head"]) (sc := defScope s_Schema__init) (by decide +kernel)) (fun _ _ _ _ _ => (pg_name (i := 8) sc_Schema__init.nd rfl (.inl rfl))) (fun _ _ _ _ _ => pts_nil) (fun _ _ _ _ _ => (pe_cmpR op_gt (pe_meth (pv 0) T.c_Schema T.t_Schema_how_many (ok_Schema_how_many T 4) (hr.mono (by decide)) T.a_Schema_how_many .nil pass0 (pa_cons (pv 8) pa_nil)) (pe_glob (v := .int 16) rfl T.g_MOST_KINDS.choose_spec ⟨_, rfl⟩) (nomark _)))) pa_nil))) (pss_cons (ps_raise rfl (takes_of rfl rfl rfl rfl) (pmk_oex T.e_BadSchema.ox T.f_BadSchema__init T.ty_BadSchema__init (ok_BadSchema__init T) (hr.mono (by decide)) T.a_BadSchema__init .nil pass0 rfl T.m_BadSchema (pa_cons (pv 2) pa_nil))) pss_nil) pss_nil)))
      pss_nil)))))))))
      pss_nil))))), ?_⟩
    refine st_fld ?_
    refine ⟨_, rfl, _, rfl, x, a.C_Schema, dx, [], rfl, hx, T.c_Schema, T.n_Schema_text, (by decide), ?_⟩
    refine st_fld ?_
    refine fun m nm => ?_
    have mx : m ≠ x := fun e => by rw [e, upd_same] at nm; cases nm
    have nm0 : H m = none := by rw [upd_ne mx] at nm; exact nm
    refine ⟨_, rfl, x, a.C_Schema, dx, fld1 t, rfl, (by rw [upd_ne (Ne.symm mx), upd_same]; rfl), T.c_Schema, T.n_Schema_marks, (by show 1 < 1000; decide), ?_⟩
    refine st_fld ?_
    refine fun f nf => ?_
    have fx : f ≠ x := fun e => by rw [e, upd_same] at nf; cases nf
    have fm : f ≠ m := fun e => by rw [e, upd_ne mx, upd_same] at nf; cases nf
    have nf0 : H f = none := by rw [upd_ne fx, upd_ne fm, upd_ne fx] at nf; exact nf
    have e2 : putF "marks" (V.ref m) (fld1 t) = fld2 t m := by unfold fld1; rw [pf1 (by decide), pf0]; rfl
    refine ⟨_, rfl, x, a.C_Schema, dx, fld2 t m, rfl, (by rw [upd_ne (Ne.symm fx), upd_same, e2]), T.c_Schema, T.n_Schema_fields, (by show 2 < 1000; decide), ?_⟩
    have e3 : putF "fields" (V.ref f) (fld2 t m) = fldS t m f := by unfold fld2; rw [pf1 (by decide), pf1 (by decide), pf0]; rfl
    rw [e3, e2]
    obtain ⟨H3, eH⟩ : ∃ z, z = L2.upd (L2.upd (L2.upd (L2.upd (L2.upd H x (.ins a.C_Schema dx (putF "text" (V.str t) []))) m (.dK [])) x (.ins a.C_Schema dx (fld2 t m))) f (.dK [])) x (.ins a.C_Schema dx (fldS t m f)) := ⟨_, rfl⟩
    rw [← eH]
    have g1 : H3 x = some (.ins a.C_Schema dx (fldS t m f)) := by rw [eH, upd_same]
    have g2 : H3 m = some (.dK []) := by rw [eH, upd_ne mx, upd_ne (Ne.symm fm), upd_ne mx, upd_same]
    have g3 : H3 f = some (.dK []) := by rw [eH, upd_ne fx, upd_same]
    have g4 : ∀ q, q ≠ x → q ≠ m → q ≠ f → H3 q = H q := fun q q1 q2 q3 => by rw [eH, upd_ne q1, upd_ne q3, upd_ne q1, upd_ne q2, upd_ne q1]
    have I0 : InS K a M H x dx m f t ⟨t, [], []⟩ H3 := by
      refine ⟨fun q hq => ?_, fun q o e n => ?_, ⟨nm0, nf0⟩, Ne.symm fm, ⟨mx, fx⟩, g1, rfl, ⟨rfl, [], g2, rfl, rfl⟩, ⟨rfl, [], g3, rfl, rfl⟩⟩
      · by_cases q1 : q = x
        · rw [q1, g1]; exact fun z => nomatch z
        · by_cases q2 : q = m
          · rw [q2, g2]; exact fun z => nomatch z
          · by_cases q3 : q = f
            · rw [q3, g3]; exact fun z => nomatch z
            · rw [g4 q q1 q2 q3]
              rcases hq with hq | hq
              · exact w0 q hq
              · simp only [List.mem_cons, List.not_mem_nil, or_false] at hq
                rcases hq with hq | hq
                · exact absurd hq q2
                · exact absurd hq q3
      · rw [g4 q (by simpa using n) (ne_of_none e nm0) (ne_of_none e nf0)]; exact e
    clear eH e3 e2 nm nf
    refine st_if ?_
    refine EVT.go (M := mxM M [m, f]) (b := !true) (evt_not (evt_b (K := K) (ev_cb (eva_cons (ev_vs (i := 1) rfl) (eva_cons ev_ty eva_nil)) (cd_isi (x := D.str t) (a := "str") (b := "str") (r := true) rfl (by decide +kernel))))) I0.wd fun H4 w4 s4 => iteF ?_
    refine Lf.st_next ?_
    have I1 := I0.same s4
    refine st_frz2 ?_
    refine st_for ?_
    have c := hpt.1
    refine EVI.gom (K := K) (M := mxM M [m, f]) (en := eP2 D.int D.str) (xs := linesOf t) (evi_enum (en := D.str) (xs := (Txt.split t "\n")) (eva_cons (ev_m1 (ev_vs (i := 1) rfl) ev_str (md_split rfl c)) eva_nil)) I1.wd fun J H5 w5 s5 wk => ?_
    have I2 := I1.same s5
    refine st_forit wk (fun i σ' H' => ∃ (s : Sch) (o2 o3 o4 o5 o6 o7 : Option V), σ' = [some (V.ref x), some (V.str t), o2, o3, o4, o5, o6, o7, none] ∧ InS K a M H x dx m f t s H' ∧ Lx (mxM M [m, f]) (mxM M [m, f]) H5 H' ∧ ((linesOf t).take i).foldl stepS (.ok ⟨t, [], []⟩) = .ok s) ⟨⟨t, [], []⟩, none, none, none, none, none, none, rfl, I2, Lx.refl, rfl⟩ (fun i σ' H' _ ⟨_, _, _, _, _, _, _, _, _, hl, _⟩ => ⟨_, hl⟩) ?_ ?_
    · rintro i xv σ' H6 H7 hi ⟨s, o2, o3, o4, o5, o6, o7, rfl, I3, l3, hs⟩ yd
      obtain ⟨z, hz, s7, hr7⟩ := yd_map yd
      have hr7 := hr7 _ I3.wd l3
      have lk := hpt.2 i z s hz hs
      obtain ⟨at_, line⟩ := z
      refine g_tup2 (d1 := D.int at_) (d2 := D.str line) hr7 fun v1 v2 h1 h2 => ?_
      cases (show v1 = V.int at_ from h1)
      cases (show v2 = V.str line from h2)
      have I4 := I3.same s7
      refine st_set ?_
      have c2 := lk.line
      refine EV.goA (K := K) (M := mxM M [m, f]) (en := eO (eP3 D.str D.str (eL (eP2 D.str D.int)))) (x0 := readLine line (decide (at_ = 0))) (ev_call (eva_cons (ev_vs (i := 3) rfl) (eva_cons (ev_op (ev_vi (i := 2) rfl) ev_int od_eqI) eva_nil)) (cd_read_line line (decide (at_ = 0)) c2)) I4.wd fun found ef vf H8 w8 s8 hfound => ?_
      have I5 := I4.same s8
      obtain ⟨ws, us, hm, hf⟩ := I5.dicts
      obtain ⟨sc, esc⟩ : ∃ z, z = s := ⟨_, rfl⟩
      have sm : ∀ hb : found.isNone = false, found.isSome = true := fun hb => by cases found with
        | none => cases hb
        | some _ => rfl
      refine st_lockIf (M' := fun q => M q ∧ q ≠ x) (b := ((found.isNone) || ((decide (at_ = 6)) || (!(Sch.admits sc ((getO found).1) (decide (at_ = 0))))))) hm hf I5.mf (fun om ou => ⟨?_, fun q hq => (Wd.lk2 I5.w0) q hq.1⟩) (fun hb om ou H9 D' s9 => ?_) (fun hb H9 s9 => ?_)
      · have hself := I5.self w0 hm hf (lk2_m I5.mf) lk2_f (fun q h1 h2 => lk2_ne (om := om) (ou := ou) h1 h2)
        have hfound := rV.lx (I5.lxl (fun q h1 h2 => lk2_ne (om := om) (ou := ou) (ws := ws) (us := us) h1 h2)) hfound
        rw [← esc] at hself
        have c4 : (found.isNone) = false → (decide (at_ = 6)) = false → found.isSome = true := fun hb _ => sm hb
        have c5 : (found.isNone) = false → (decide (at_ = 6)) = false → pre_admits sc ((getO found).1) (decide (at_ = 0)) := fun hb h6 => by
          obtain ⟨fd, efd⟩ := Option.isSome_iff_exists.mp (sm hb)
          rw [efd, esc]
          exact lk.adm fd (by rw [← efd]; exact ef.symm) (of_decide_eq_false h6)
        exact (evt_or (evt_test (K := K) (ev_op (ev_var (d := (.im ((eO (eP3 D.str D.str (eL (eP2 D.str D.int)))) found))) (i := 4) rfl hfound) ev_non (od_isNO (en := (eP3 D.str D.str (eL (eP2 D.str D.int)))) (fun _ => rfl)))) fun hb => (evt_or (evt_test (K := K) (ev_op (ev_vi (i := 2) rfl) ev_int od_eqI)) fun hb2 => (evt_not (evt_b (K := K) (ev_meth (ev_var (d := (.im ((eSch a.C_Schema) sc))) (i := 0) rfl hself) (by decide) (eva_cons (ev_op (ev_getO (en := (eP3 D.str D.str (eL (eP2 D.str D.int)))) (ev_var (d := (.im ((eO (eP3 D.str D.str (eL (eP2 D.str D.int)))) found))) (i := 4) rfl hfound) (c4 hb hb2)) ev_int (od_ixT (es := [D.str ((getO found).1), D.str ((getO found).2.1), (eL (eP2 D.str D.int)) ((getO found).2.2)]) rfl)) (eva_cons (ev_op (ev_vi (i := 2) rfl) ev_int od_eqI) eva_nil)) (cd_Schema_admits sc ((getO found).1) (decide (at_ = 0)) (c5 hb hb2)))))))
      · have pe : parseS t = .error at_ := parse_err hz hs (by
          unfold stepS
          dsimp only
          rw [← ef, ← esc, if_pos hb])
        refine ⟨_, rfl, (by show 1 ≤ 1000; decide), fun e ne => mkErr (fun d H' nd s' hd => ?_) e ne⟩
        obtain ⟨r1, r2, r3⟩ := I5.raise hm hf s9 nd s'
        exact kE at_ d H' pe r1 r2 r3 hd
      · have I6 := I5.same s9
        simp only [Bool.or_eq_false_iff, Bool.not_eq_false'] at hb
        obtain ⟨fd, efd⟩ := Option.isSome_iff_exists.mp (sm hb.1)
        have hfd : rD K (Fx (mxM M [m, f]) H9) (eP3 D.str D.str (eL (eP2 D.str D.int)) fd) vf := by
          have := rV.same s9 hfound
          rw [efd] at this
          exact this
        have had : s.admits fd.1 (decide (at_ = 0)) = true := by
          have := hb.2.2
          rw [efd, esc] at this
          exact this
        have hrd : readLine line (decide (at_ = 0)) = some fd := by rw [← efd]; exact ef.symm
        have h6 : at_ ≠ 6 := of_decide_eq_false hb.2.1
        refine st_asgT ?_
        refine ⟨_, rfl, ?_⟩
        refine g_tup3 (d1 := D.str fd.1) (d2 := D.str fd.2.1) (d3 := eL (eP2 D.str D.int) fd.2.2) hfd fun v1 v2 vc h1 h2 hc => ?_
        cases (show v1 = V.str fd.1 from h1)
        cases (show v2 = V.str fd.2.1 from h2)
        refine st_dput ?_
        refine ⟨_, rfl, _, rfl, x, a.C_Schema, dx, fldS t m f, .ref m, rfl, I6.at_, T.c_Schema, T.n_Schema_marks, (by unfold fldS; rw [lk1 (by decide), lk0]), _, rfl, ?_⟩
        refine x_dput (en := D.str) (x := fd.2.1) (k := fd.1) I6.rm rfl (by simp) lk.few.1 fun H10 ⟨ws2, e10⟩ r10 => ?_
        subst e10
        have I7 := I6.putm r10
        have hc2 : rV K (mxM M [m, f]) (L2.upd H9 m (.dK ws2)) (.im (eL (eP2 D.str D.int) fd.2.2)) vc := rV.lx (Gd.lx_upd (by simp)) hc
        refine st_dput ?_
        refine ⟨_, rfl, _, rfl, x, a.C_Schema, dx, fldS t m f, .ref f, rfl, I7.at_, T.c_Schema, T.n_Schema_fields, (by unfold fldS; rw [lk1 (by decide), lk1 (by decide), lk0]), _, rfl, ?_⟩
        refine x_dput (en := eL (eP2 D.str D.int)) (x := fd.2.2) (k := fd.1) I7.rf hc2 (by simp) lk.few.2 fun H11 ⟨us2, e11⟩ r11 => ?_
        subst e11
        have I8 : InS K a M H x dx m f t (s.put fd) _ := I7.putf r11
        obtain ⟨ws', us', hm', hf'⟩ := I8.dicts
        obtain ⟨c8, c9, c10⟩ := lk.hds fd hrd h6 had
        have st1 : stepS (.ok s) (at_, line) = if (s.put fd).full = true then .error at_ else .ok (s.put fd) := by
          unfold stepS
          dsimp only
          rw [hrd]
          rw [if_neg (by
            intro hh
            simp only [Bool.or_eq_true] at hh
            rcases hh with hh | hh | hh
            · cases hh
            · exact h6 (of_decide_eq_true hh)
            · rw [show (getO (some fd)) = fd from rfl, had] at hh; cases hh)]
          rfl
        refine st_lockIf (M' := fun q => M q ∧ q ≠ x) (b := (s.put fd).full) hm' hf' I8.mf (fun om ou => ⟨?_, fun q hq => (Wd.lk2 I8.w0) q hq.1⟩) (fun hb om ou H12 D' s12 => ?_) (fun hb H12 s12 => ?_)
        · have hself := I8.self w0 hm' hf' (lk2_m I8.mf) lk2_f (fun q h1 h2 => lk2_ne (om := om) (ou := ou) h1 h2)
          obtain ⟨sc, esc⟩ : ∃ z, z = s.put fd := ⟨_, rfl⟩
          rw [← esc] at hself c8 c9 c10 ⊢
          exact (evt_b (K := K) (ev_cb (eva_cons (ev_lcmm (fd := fun (head : Str) => (decide (16 < (Sch.howMany sc head)))) (en2 := D.bl) (xs := (Sch.heads sc)) (en := D.str) (evi_list (es := List.map D.str (Sch.heads sc)) (ev_meth (ev_var (d := (.im ((eSch a.C_Schema) sc))) (i := 0) rfl hself) (by decide) eva_nil (cd_Schema_heads sc c8))) GI.ex gm_name c9 (fun head hy M H v wd ex h => ⟨rfl, rfl, (ev_op (ev_meth (ev_var (d := (.im ((eSch a.C_Schema) sc))) (i := 0) rfl (rV.ex (d := (.im ((eSch a.C_Schema) sc))) ex hself)) (by decide) (eva_cons (ev_var (d := (.im (D.str head))) (i := 8) rfl h) eva_nil) (cd_Schema_how_many 4 sc head (c10 head hy))) ev_int od_gt)⟩)) eva_nil) (cd_any (bs := ((Sch.heads sc).map fun (head : Str) => (decide (16 < (Sch.howMany sc head))))) LsOf.im)))
        · have pe : parseS t = .error at_ := parse_err hz hs (by rw [st1, if_pos hb])
          refine ⟨_, rfl, (by show 1 ≤ 1000; decide), fun e ne => mkErr (fun d H' nd s' hd => ?_) e ne⟩
          obtain ⟨r1, r2, r3⟩ := I8.raise hm' hf' s12 nd s'
          exact kE at_ d H' pe r1 r2 r3 hd
        · have I9 := I8.same s12
          refine ⟨s.put fd, _, _, _, _, _, _, rfl, I9, ?_, ?_⟩
          · exact (((((l3.trans (Lx.same s7)).trans (Lx.same s8)).trans (Lx.same s9)).trans (Gd.lx_upd (by simp))).trans (Gd.lx_upd (by simp))).trans (Lx.same s12)
          · rw [take_fold _ _ _ hz, hs, st1, if_neg (by rw [hb]; decide)]
    · rintro σ' H6 ⟨s, o2, o3, o4, o5, o6, o7, rfl, I3, l3, hs⟩
      obtain ⟨ws, us, hm, hf⟩ := I3.dicts
      refine ⟨m, .dK ws, hm, True.intro, fun om => ⟨f, .dK us, (by rw [upd_ne (Ne.symm I3.mf)]; exact hf), True.intro, fun ou => ?_⟩⟩
      refine kQ s (lk2 H6 m f ws us om ou) (by unfold parseS; rw [← hs, List.take_length]) (Wd.lk2 I3.w0) (fun q o e n => ?_) (I3.self w0 hm hf (lk2_m I3.mf) lk2_f (fun q h1 h2 => lk2_ne h1 h2))
      rw [lk2_ne (ne_of_none e I3.nw.1) (ne_of_none e I3.nw.2)]
      exact I3.bu q o e n

end
end Toy

set_option Elab.async false
set_option linter.all false
set_option maxRecDepth 100000
set_option maxHeartbeats 4000000
set_option pp.maxSteps 300
set_option pp.deepTerms false
namespace Toy
open PySem L2 Lf
section
variable {P : Program} {w : World} {K : PySem.W.Frag} {mg : Str → Option Value} {base : Heap} {a : Ad}

def refusedS (t : Str) : Option Int := match parseS t with
  | .ok _ => none
  | .error e => some e
def sp_l_refused (K : PySem.W.Frag) : Sp := spF K (fun (x : Str) => [D.str x]) (eO D.int) (fun (x : Str) => ParseOk x) (fun (x : Str) => refusedS x)
theorem cd_l_refused {E : XK} (t : Str) (hp : ParseOk t) : CaD K (fun vs H Q => sp_l_refused K vs H Q E) [.im (D.str t)] (.im (eO D.int (refusedS t))) := cd_fn (ens := fun (x : Str) => [D.str x]) (er := eO D.int) t hp
theorem sc_l_refused : FnScope ["_law_text", "e", "_law_told"] ["_law_text"] (defScope s_l_refused) := ⟨rfl, rfl, rfl, by decide +kernel, rfl, by decide +kernel, by decide +kernel⟩
theorem ok_l_refused (T : Txt K mg a) : FnOk P w K mg base CX0 10 a.f_l_refused a.d_l_refused ["_law_text"] (sp_l_refused K) := by
  refine T.F_l_refused.ok sc_l_refused (fun vs H Q E h => ?_) (fun cdv A outer s H vs Q E hr h => ?_)
  · obtain ⟨M0, x, w0, hx, _⟩ := h
    exact hx.len
  · obtain ⟨M0, t, w0, hx, hp, kq⟩ := h
    have hx : rDs K (Fx M0 H) [D.str t] vs := hx
    obtain ⟨v, _, rfl, h3, rfl⟩ := hx
    cases (show v = V.str t from h3)
    dsimp only at kq
    refine ⟨_, (pss_cons (ps_try_as (i := 1) (tb := fun W => tDrop (tMakeAt a.C_Schema (spInit K a) (WE W) (tCons (tVar 0) tNil))) (ts := fun e cls d => tSeq (tAsg (tXf e cls d a.C_BadSchema "at" (tVar 1)) (gName 2)) (tRet (tVar 2))) (Wout := fun _ _ _ _ => False) rfl rfl sc_l_refused.nd rfl rfl ⟨rfl, by decide, .inl T.m_BadSchema⟩ takes0
      (fun W pn xe tk _ => pss_one (ps_expr (pe_makeAt T.mk_Schema (raw0 ((ok_Schema__init T).raw T.a_Schema__init .nil)) (hr.mono (by decide)) rfl T.m_Schema (fun σ => passAt tk σ) (pa_cons (pv 0) pa_nil))))
      (fun e oe cls d pn hz hf => pss_cons (ps_set (i := 2) sc_l_refused.nd rfl (.inl rfl) (pe_xf T.e_BadSchema.xf T.n_BadSchema_at hz hf (pv 1))) (pss_one (ps_ret (pv 2)))))
      (pss_cons (ps_ret pe_non) pss_nil)), ?_⟩
    refine ⟨_, rfl, fun x dx nx nd ne => ?_⟩
    have sm : Same H (upd (upd H dx (.own x)) x (.ins a.C_Schema dx [])) := Same.make nx nd
    have wd : Wd (adM M0 x) (upd (upd H dx (.own x)) x (.ins a.C_Schema dx [])) := Wd.add (w0.same sm) (by rw [upd_same]; exact fun z => nomatch z)
    have back : ∀ {H3 : Hp}, Wd (adM M0 x) H3 → Bu [x] (upd (upd H dx (.own x)) x (.ins a.C_Schema dx [])) H3 → Wd M0 H3 ∧ Same H H3 := fun {H3} w3 b3 =>
      ⟨fun q hq => w3 q (.inl hq), fun q o e => b3 q o (sm q o e) (by simpa using ne_of_none e nx)⟩
    refine ⟨adM M0 x, x, dx, t, rfl, wd, .inr rfl, upd_same, hp, fun s' H3 e3 w3 b3 r3 => ⟨rfl, ?_⟩, fun e d H3 e3 nd3 w3 b3 hd => ?_⟩
    · obtain ⟨w4, s4⟩ := back w3 b3
      have er : refusedS t = none := by unfold refusedS; rw [e3]
      rw [er] at kq
      exact kq .non H3 w4 s4 rfl
    · obtain ⟨w4, s4⟩ := back w3 b3
      have er : refusedS t = some e := by unfold refusedS; rw [e3]
      rw [er] at kq
      refine ⟨true, T.e_BadSchema.ex (sub_self T.e_BadSchema), fun _ ea he => ?_, fun q => nomatch q⟩
      refine ⟨_, rfl, rfl, rfl, d, _, .int e, rfl, hd, rfl, ?_⟩
      exact ⟨_, rfl, kq (.int e) H3 w4 s4 rfl⟩

end
end Toy

set_option Elab.async false
set_option linter.all false
set_option maxRecDepth 100000
set_option maxHeartbeats 4000000
set_option pp.maxSteps 300
set_option pp.deepTerms false
namespace Toy
open PySem L2 Lf
section
variable {P : Program} {w : World} {K : PySem.W.Frag} {mg : Str → Option Value} {base : Heap} {a : Ad}

/-- a word -/
structure LW (w : Str) : Prop where
  lo : 1 ≤ w.length
  hi : w.length ≤ 8
  ns : w ≠ "self"
  ls : ∀ c ∈ TL.tl w, 97 ≤ c ∧ c ≤ 122
theorem abc_mem {c : Nat} : c ∈ (Str.ofString "abcdefghijklmnopqrstuvwxyz").cps.toList ↔ 97 ≤ c ∧ c ≤ 122 := by
  rw [show (Str.ofString "abcdefghijklmnopqrstuvwxyz").cps.toList = [97, 98, 99, 100, 101, 102, 103, 104, 105, 106, 107, 108, 109, 110, 111, 112, 113, 114, 115, 116, 117, 118, 119, 120, 121, 122] by decide +kernel]
  simp only [List.mem_cons, List.not_mem_nil, or_false]
  omega
theorem isWord_of {w : Str} (h : LW w) : isWord w = true := by
  unfold isWord
  rw [decide_eq_true (show (1 : Int) ≤ (w.length : Int) by have := h.lo; omega), decide_eq_true (show (w.length : Int) ≤ 8 by have := h.hi; omega), decide_eq_false h.ns]
  simp only [Bool.and_self, Bool.not_false, Bool.true_and, List.all_map, List.all_eq_true]
  intro x hx
  unfold signs at hx
  obtain ⟨c, hc, rfl⟩ := List.mem_map.mp hx
  show inC _ _ = true
  unfold inC
  rw [decide_eq_true_iff]
  exact abc_mem.mpr (h.ls c hc)
def colText (c : Str × Int) : Str := (c.1 ++ "=") ++ (Str.ofString (toString c.2))
structure ColsOk (cs : List (Str × Int)) : Prop where
  lo : 1 ≤ cs.length
  hi : cs.length ≤ 2
  nm : ∀ c ∈ cs, LW c.1
  tp : ∀ c ∈ cs, 1 ≤ c.2 ∧ c.2 ≤ 3
  nd : (cs.map (·.1)).Nodup
theorem top_cases {i : Int} (h : 1 ≤ i ∧ i ≤ 3) : Str.ofString (toString i) ∈ (["1", "2", "3"] : List Str) ∧ intOf (Str.ofString (toString i)) = i ∧ TL.tl (Str.ofString (toString i)) = [48 + i.toNat] := by
  have : i = 1 ∨ i = 2 ∨ i = 3 := by omega
  rcases this with rfl | rfl | rfl <;> refine ⟨?_, ?_, ?_⟩ <;> decide +kernel
theorem colText_part {c : Str × Int} (h : LW c.1) : Txt.partition (colText c) "=" = (c.1, Str.ofString "=", Str.ofString (toString c.2)) := TL.partition_app eq_sign fun z => by have := h.ls 61 z; omega
theorem colFold_ok : ∀ (cs acc : List (Str × Int)), (∀ c ∈ cs, LW c.1) → (∀ c ∈ cs, 1 ≤ c.2 ∧ c.2 ≤ 3) → ((acc ++ cs).map (·.1)).Nodup → (cs.map colText).foldl colStep (some acc) = some (acc ++ cs)
  | [], acc, _, _, _ => by simp
  | c :: cs, acc, h1, h2, h3 => by
    have hc := h1 c (List.mem_cons_self ..)
    have tc := top_cases (h2 c (List.mem_cons_self ..))
    have nb : ¬ colBad acc (colText c) = true := by
      unfold colBad
      rw [colText_part hc]
      dsimp only
      rw [isWord_of hc, decide_eq_true rfl, decide_eq_true tc.1, decide_eq_false (fun z => ?_)]
      · decide
      · rw [List.map_append, List.map_cons] at h3
        have := (List.nodup_append.mp h3).2.2 c.1 z c.1 (List.mem_cons_self ..)
        exact this rfl
    rw [List.map_cons, List.foldl_cons, colStep_no nb, colText_part hc]
    dsimp only
    rw [tc.2.1, colFold_ok cs _ (fun d hd => h1 d (List.mem_cons_of_mem _ hd)) (fun d hd => h2 d (List.mem_cons_of_mem _ hd)) (by rw [List.append_assoc]; exact h3), List.append_assoc]
    rfl
theorem readCols_ok {cs : List (Str × Int)} (h : ColsOk cs) : readCols (cs.map colText) = some cs := by
  unfold readCols
  rw [colFold_ok cs [] h.nm h.tp (by rw [List.nil_append]; exact h.nd), List.nil_append]
  show (if _ then _ else _) = _
  rw [if_pos]
  have := h.lo
  have := h.hi
  rw [decide_eq_true (show (1 : Int) ≤ (cs.length : Int) by omega), decide_eq_true (show (cs.length : Int) ≤ 2 by omega)]
  rfl
theorem colText_len {c : Str × Int} (h : LW c.1) (t : 1 ≤ c.2 ∧ c.2 ≤ 3) : (colText c).length ≤ 10 := by
  unfold colText
  rw [len_cat, len_cat, show ("=" : Str).length = 1 by decide +kernel, show (Str.ofString (toString c.2)).length = 1 by rw [TL.len_tl, (top_cases t).2.2]; rfl]
  have := h.hi
  omega
theorem colText_sp {c : Str × Int} (h : LW c.1) (t : 1 ≤ c.2 ∧ c.2 ≤ 3) {s : Nat} (hs : s = 32 ∨ s = 10) : s ∉ TL.tl (colText c) := fun z => by
  unfold colText at z
  rw [TL.tl_append, TL.tl_append, eq_sign, (top_cases t).2.2] at z
  simp only [List.mem_append, List.mem_cons, List.not_mem_nil, or_false] at z
  rcases z with (z | z) | z
  · have := h.ls s z; omega
  · omega
  · omega
theorem cut_last {p k : Str} (h : k.length = 1) : cutS (p ++ k) none (some (-1)) = p ∧ cutS (p ++ k) (some (-1)) none = k := by
  have l : (p ++ k).length = p.length + 1 := by rw [len_cat, h]
  have s1 : HT.sIx (p ++ k).length (p ++ k).length (some (-1)) = p.length := by
    show (if (-1 : Int) < 0 then ((-1 : Int) + ((p ++ k).length : Int)).toNat else min (-1 : Int).toNat (p ++ k).length) = p.length
    rw [if_pos (by decide), l]
    omega
  have s2 : HT.sIx (p ++ k).length 0 (some (-1)) = p.length := by
    show (if (-1 : Int) < 0 then ((-1 : Int) + ((p ++ k).length : Int)).toNat else min (-1 : Int).toNat (p ++ k).length) = p.length
    rw [if_pos (by decide), l]
    omega
  have e : (p ++ k).cps.toList = p.cps.toList ++ k.cps.toList := TL.tl_append p k
  have lp : p.length = p.cps.toList.length := TL.len_tl p
  have lk : k.cps.toList.length = 1 := by rw [← h]; exact (TL.len_tl k).symm
  constructor
  · apply TL.ext_tl
    unfold cutS
    rw [s1, HT.sIx_none, TL.tl_mk, List.drop_zero, Nat.sub_zero, e, lp, List.take_left]
  · apply TL.ext_tl
    unfold cutS
    rw [s2, HT.sIx_none, TL.tl_mk, e, l, lp, List.drop_left, List.take_of_length_le (by rw [lk]; omega)]
theorem us_sign : TL.tl "_" = 95 :: [] := by decide +kernel
/-- a path of words -/
structure PW (p : Str) (ws : List Str) : Prop where
  eq : p = Txt.join "_" ws
  lo : ws ≠ []
  hi : ws.length ≤ 3
  wd : ∀ w ∈ ws, LW w
theorem PW.split {p : Str} {ws : List Str} (h : PW p ws) : Txt.split p "_" = ws := by
  rw [h.eq]
  exact TL.split_join us_sign (by decide +kernel) h.lo fun w hw z => by have := (h.wd w hw).ls 95 z; omega
theorem joinL_sum (S : List Nat) : ∀ ps : List (List Nat), (TL.joinL S ps).length ≤ (ps.map List.length).sum + ps.length * S.length
  | [] => by simp [TL.joinL]
  | [p] => by simp [TL.joinL]
  | p :: q :: r => by
    have := joinL_sum S (q :: r)
    show (p ++ (S ++ TL.joinL S (q :: r))).length ≤ _
    simp only [List.length_append, List.map_cons, List.sum_cons, List.length_cons] at this ⊢
    rw [Nat.add_mul (r.length + 1) 1]
    omega
theorem join_len (y : Str) (ps : List Str) : (Txt.join y ps).length ≤ (ps.map (·.length)).sum + ps.length * y.length := by
  have := joinL_sum (TL.tl y) (ps.map TL.tl)
  rw [TL.len_tl, TL.join_eq, TL.tl_join]
  refine Nat.le_trans this ?_
  rw [List.map_map, List.length_map, ← TL.len_tl]
  refine Nat.add_le_add_right (Nat.le_of_eq ?_) _
  congr 1
theorem joinL_mem {S : List Nat} {c : Nat} : ∀ {ps : List (List Nat)}, c ∈ TL.joinL S ps → c ∈ S ∨ ∃ p ∈ ps, c ∈ p
  | [], h => by cases h
  | [p], h => .inr ⟨p, List.mem_cons_self .., h⟩
  | p :: q :: r, h => by
    have h : c ∈ p ++ (S ++ TL.joinL S (q :: r)) := h
    rw [List.mem_append, List.mem_append] at h
    rcases h with h | h | h
    · exact .inr ⟨p, List.mem_cons_self .., h⟩
    · exact .inl h
    · rcases joinL_mem h with h | ⟨w, hw, h⟩
      · exact .inl h
      · exact .inr ⟨w, List.mem_cons_of_mem _ hw, h⟩
theorem join_mem {y : Str} {ps : List Str} {c : Nat} (h : c ∈ TL.tl (Txt.join y ps)) : c ∈ TL.tl y ∨ ∃ p ∈ ps, c ∈ TL.tl p := by
  rw [TL.join_eq, TL.tl_join] at h
  rcases joinL_mem h with h | ⟨p, hp, h⟩
  · exact .inl h
  · obtain ⟨q, hq, rfl⟩ := List.mem_map.mp hp
    exact .inr ⟨q, hq, h⟩
theorem sum_le {α : Type} (f : α → Nat) (b : Nat) : ∀ l : List α, (∀ x ∈ l, f x ≤ b) → (l.map f).sum ≤ l.length * b
  | [], _ => by simp
  | x :: l, h => by
    have := sum_le f b l fun y hy => h y (List.mem_cons_of_mem _ hy)
    have h0 := h x (List.mem_cons_self ..)
    rw [List.map_cons, List.sum_cons, List.length_cons, Nat.add_mul]
    omega
theorem PW.len {p : Str} {ws : List Str} (h : PW p ws) : p.length ≤ 27 := by
  have h1 := join_len "_" ws
  have h2 := sum_le (fun w : Str => w.length) 8 ws fun w hw => (h.wd w hw).hi
  rw [← h.eq, us_len] at h1
  have := h.hi
  omega
theorem PW.ls {p : Str} {ws : List Str} (h : PW p ws) {c : Nat} (hc : c ∈ TL.tl p) : c = 95 ∨ (97 ≤ c ∧ c ≤ 122) := by
  rw [h.eq] at hc
  rcases join_mem hc with hc | ⟨w, hw, hc⟩
  · rw [us_sign] at hc
    exact .inl (by simpa using hc)
  · exact .inr ((h.wd w hw).ls c hc)
/-- the text of a line -/
def lineText (first : Str) (cs : List (Str × Int)) : Str := Txt.join " " (first :: cs.map colText)
theorem lineText_split {first : Str} {cs : List (Str × Int)} (h : ColsOk cs) (hf : 32 ∉ TL.tl first) : Txt.split (lineText first cs) " " = first :: cs.map colText := TL.split_join sp_sign (by decide +kernel) (by simp) fun p hp => by
  rcases List.mem_cons.mp hp with rfl | hp
  · exact hf
  · obtain ⟨c, hc, rfl⟩ := List.mem_map.mp hp
    exact colText_sp (h.nm c hc) (h.tp c hc) (.inl rfl)
theorem lineText_len {first : Str} {cs : List (Str × Int)} (h : ColsOk cs) : (lineText first cs).length ≤ first.length + 23 := by
  have h1 := join_len " " (first :: cs.map colText)
  have h2 := sum_le (fun w : Str => w.length) 10 (cs.map colText) fun w hw => by
    obtain ⟨c, hc, rfl⟩ := List.mem_map.mp hw
    exact colText_len (h.nm c hc) (h.tp c hc)
  rw [show (" " : Str).length = 1 by decide +kernel, List.map_cons, List.sum_cons, List.length_cons] at h1
  rw [List.length_map] at h1 h2
  have := h.hi
  unfold lineText
  omega
theorem lineText_nl {first : Str} {cs : List (Str × Int)} (h : ColsOk cs) (hf : 10 ∉ TL.tl first) : 10 ∉ TL.tl (lineText first cs) := fun z => by
  unfold lineText at z
  rcases join_mem z with z | ⟨w, hw, z⟩
  · rw [sp_sign] at z; simp at z
  · rcases List.mem_cons.mp hw with e | hw
    · exact hf (by rw [← e]; exact z)
    · obtain ⟨c, hc, rfl⟩ := List.mem_map.mp hw
      exact colText_sp (h.nm c hc) (h.tp c hc) (.inr rfl) z
theorem line_pre {first : Str} {cs : List (Str × Int)} (b : Bool) (h : ColsOk cs) (hf : 32 ∉ TL.tl first) (hl : first.length ≤ 1000) (h5 : ∀ w ∈ first :: cs.map colText, (Txt.split (cutS w none (some (-1))) "_").length ≤ 100000 ∧ ∀ p ∈ Txt.split (cutS w none (some (-1))) "_", p.length ≤ 100000) : pre_rline (lineText first cs) b := by
  have hw : ∀ w ∈ first :: cs.map colText, w.length ≤ 1000 := fun w hw => by
    rcases List.mem_cons.mp hw with rfl | hw
    · exact hl
    · obtain ⟨c, hc, rfl⟩ := List.mem_map.mp hw
      have := colText_len (h.nm c hc) (h.tp c hc)
      omega
  refine ⟨?_, ?_, ?_, ?_, ?_⟩
  · have := lineText_len (first := first) h; omega
  · rw [lineText_split h hf]; simp
  · rw [lineText_split h hf, List.length_cons, List.length_map]; have := h.hi; omega
  · rw [lineText_split h hf]
    exact fun w hm => by have := hw w hm; omega
  · rw [lineText_split h hf]
    exact fun w hm => ⟨(h5 w hm).1, by have := cutS_length w none (some (-1)); have := hw w hm; omega, (h5 w hm).2⟩

end
end Toy

set_option Elab.async false
set_option linter.all false
set_option maxRecDepth 100000
set_option maxHeartbeats 4000000
set_option pp.maxSteps 300
set_option pp.deepTerms false
namespace Toy
open PySem L2 Lf
section
variable {P : Program} {w : World} {K : PySem.W.Frag} {mg : Str → Option Value} {base : Heap} {a : Ad}

theorem split_one {p : Str} (h : 95 ∉ TL.tl p) : Txt.split p "_" = [p] := by
  have e : Txt.join "_" [p] = p := by
    rw [TL.join_eq]
    apply TL.ext_tl
    rw [TL.tl_join]
    rfl
  have := TL.split_join us_sign (by decide +kernel) (parts := [p]) (by simp) (by simpa using h)
  rw [e] at this
  exact this
theorem cutS_mem {z : Str} {lo hi : Option Int} {c : Nat} (h : c ∈ TL.tl (cutS z lo hi)) : c ∈ TL.tl z := by
  unfold cutS at h
  rw [TL.tl_mk] at h
  exact List.mem_of_mem_drop (List.mem_of_mem_take h)
theorem cut_pre {w : Str} (h : 95 ∉ TL.tl w) (hl : w.length ≤ 1000) : (Txt.split (cutS w none (some (-1))) "_").length ≤ 100000 ∧ ∀ p ∈ Txt.split (cutS w none (some (-1))) "_", p.length ≤ 100000 := by
  rw [split_one fun z => h (cutS_mem z)]
  refine ⟨by simp, fun p hp => ?_⟩
  rw [List.mem_singleton.mp hp]
  have := cutS_length w none (some (-1))
  omega
theorem colText_us {c : Str × Int} (h : LW c.1) (t : 1 ≤ c.2 ∧ c.2 ≤ 3) : 95 ∉ TL.tl (colText c) := fun z => by
  unfold colText at z
  rw [TL.tl_append, TL.tl_append, eq_sign, (top_cases t).2.2] at z
  simp only [List.mem_append, List.mem_cons, List.not_mem_nil, or_false] at z
  rcases z with (z | z) | z
  · have := h.ls 95 z; omega
  · omega
  · omega
theorem cols_pre {cs : List (Str × Int)} (h : ColsOk cs) : ∀ w ∈ cs.map colText, (Txt.split (cutS w none (some (-1))) "_").length ≤ 100000 ∧ ∀ p ∈ Txt.split (cutS w none (some (-1))) "_", p.length ≤ 100000 := fun w hw => by
  obtain ⟨c, hc, rfl⟩ := List.mem_map.mp hw
  have := colText_len (h.nm c hc) (h.tp c hc)
  exact cut_pre (colText_us (h.nm c hc) (h.tp c hc)) (by omega)
theorem LW.sp {r : Str} (h : LW r) {s : Nat} (hs : s < 97) : s ∉ TL.tl r := fun z => by have := h.ls s z; omega
theorem line_first {r : Str} {cs : List (Str × Int)} (hr : LW r) (h : ColsOk cs) (b : Bool) : readLine (lineText r cs) true = some (Str.ofString "", Str.ofString "", cs) ∧ pre_rline (lineText r cs) b := by
  have hs : (32 : Nat) ∉ TL.tl r := hr.sp (by decide)
  refine ⟨?_, line_pre b h hs (by have := hr.hi; omega) fun w hw => ?_⟩
  · unfold readLine
    rw [lineText_split h hs, List.tail_cons, readCols_ok h]
    show (if true = true then (if isWord r = true then some (Str.ofString "", Str.ofString "", cs) else none) else _) = _
    rw [if_pos rfl, if_pos (isWord_of hr)]
  · rcases List.mem_cons.mp hw with rfl | hw
    · exact cut_pre (hr.sp (by decide)) (by have := hr.hi; omega)
    · exact cols_pre h w hw
theorem mark_len {k : Str} (h : k ∈ (["*", "!", "?"] : List Str)) : k.length = 1 ∧ ∀ c ∈ TL.tl k, c = 42 ∨ c = 33 ∨ c = 63 := by
  simp only [List.mem_cons, List.not_mem_nil, or_false] at h
  rcases h with rfl | rfl | rfl <;> decide +kernel
theorem line_next {p k : Str} {ws : List Str} {cs : List (Str × Int)} (hp : PW p ws) (hk : k ∈ (["*", "!", "?"] : List Str)) (h : ColsOk cs) (b : Bool) : readLine (lineText (p ++ k) cs) false = some (p, k, cs) ∧ pre_rline (lineText (p ++ k) cs) b := by
  obtain ⟨k1, k2⟩ := mark_len hk
  have hs : ∀ s : Nat, s = 32 → s ∉ TL.tl (p ++ k) := fun s e z => by
    rw [TL.tl_append, List.mem_append] at z
    rcases z with z | z
    · have := hp.ls z; omega
    · have := k2 s z; omega
  obtain ⟨c1, c2⟩ := cut_last (p := p) k1
  have pl := hp.len
  refine ⟨?_, line_pre b h (hs 32 rfl) (by rw [len_cat]; omega) fun w hw => ?_⟩
  · unfold readLine
    rw [lineText_split h (hs 32 rfl), List.tail_cons, readCols_ok h]
    have nb : ¬ lineBad (p ++ k) = true := by
      unfold lineBad
      rw [c1, c2, decide_eq_true hk, hp.split, decide_eq_false (by have := hp.hi; omega)]
      rw [show ((ws.map fun part => (isWord part)).all id) = true by
        rw [List.all_map, List.all_eq_true]
        exact fun w hw => isWord_of (hp.wd w hw)]
      decide
    show (if false = true then _ else if lineBad (p ++ k) = true then none else some (cutS (p ++ k) none (some (-1)), cutS (p ++ k) (some (-1)) none, cs)) = _
    rw [if_neg (by decide), if_neg nb, c1, c2]
  · rcases List.mem_cons.mp hw with rfl | hw
    · rw [c1, hp.split]
      exact ⟨by have := hp.hi; omega, fun q hq => by have := (hp.wd q hq).hi; omega⟩
    · exact cols_pre h w hw
theorem nl_sign : TL.tl "\n" = 10 :: [] := by decide +kernel
theorem lines_split {ls : List Str} (h0 : ls ≠ []) (h : ∀ l ∈ ls, 10 ∉ TL.tl l) : linesOf (Txt.join "\n" ls) = enumI ls := by
  unfold linesOf
  rw [TL.split_join nl_sign (by decide +kernel) h0 h]

end
end Toy

set_option Elab.async false
set_option linter.all false
set_option maxRecDepth 100000
set_option maxHeartbeats 4000000
set_option pp.maxSteps 300
set_option pp.deepTerms false
namespace Toy
open PySem L2 Lf
section
variable {P : Program} {w : World} {K : PySem.W.Frag} {mg : Str → Option Value} {base : Heap} {a : Ad}

theorem join_one (w : Str) : Txt.join "_" [w] = w := by
  rw [TL.join_eq]
  apply TL.ext_tl
  rw [TL.tl_join]
  rfl
theorem joinL_snoc {S : List Nat} {w : List Nat} : ∀ {ps : List (List Nat)}, ps ≠ [] → TL.joinL S (ps ++ [w]) = TL.joinL S ps ++ (S ++ w)
  | [], h => absurd rfl h
  | [p], _ => rfl
  | p :: q :: r, _ => by
    show p ++ (S ++ TL.joinL S (q :: r ++ [w])) = (p ++ (S ++ TL.joinL S (q :: r))) ++ (S ++ w)
    rw [joinL_snoc (ps := q :: r) (by simp)]
    simp only [List.append_assoc]
theorem join_snoc {ws : List Str} (w : Str) (h : ws ≠ []) : Txt.join "_" (ws ++ [w]) = Txt.join "_" ws ++ "_" ++ w := by
  rw [TL.join_eq, TL.join_eq]
  apply TL.ext_tl
  rw [TL.tl_join, TL.tl_append, TL.tl_append, TL.tl_join, List.map_append, List.map_cons, List.map_nil, joinL_snoc (by simpa using h), List.append_assoc]
theorem PW.one {w : Str} (h : LW w) : PW w [w] := ⟨(join_one w).symm, by simp, by simp, by simpa using h⟩
theorem PW.snoc {p w : Str} {ws : List Str} (h : PW p ws) (hl : ws.length < 3) (hw : LW w) : PW (p ++ "_" ++ w) (ws ++ [w]) := by
  refine ⟨by rw [join_snoc w h.lo, ← h.eq], by simp, by rw [List.length_append, List.length_singleton]; omega, fun v hv => ?_⟩
  rcases List.mem_append.mp hv with hv | hv
  · exact h.wd v hv
  · rw [List.mem_singleton.mp hv]; exact hw
theorem PW.above {p : Str} {ws : List Str} (h : PW p ws) : (ws.length = 1 ∧ Lf.above p = "") ∨ (1 < ws.length ∧ PW (Lf.above p) ws.dropLast) := by
  obtain ⟨us, w, e⟩ : ∃ us w, ws = us ++ [w] := ⟨ws.dropLast, ws.getLast h.lo, (List.dropLast_concat_getLast h.lo).symm⟩
  subst e
  have hw := h.wd w (by simp)
  by_cases hu : us = []
  · subst hu
    left
    refine ⟨rfl, ?_⟩
    rw [h.eq, List.nil_append, join_one]
    exact above_plain (hw.sp (by decide))
  · right
    have l0 : 0 < us.length := List.length_pos_iff.mpr hu
    refine ⟨by rw [List.length_append, List.length_singleton]; omega, ?_⟩
    rw [h.eq, join_snoc w hu, above_join (hw.sp (by decide)), List.dropLast_concat]
    exact ⟨rfl, hu, by have := h.hi; rw [List.length_append, List.length_singleton] at this; omega, fun v hv => h.wd v (List.mem_append_left _ hv)⟩
theorem PW.ne {p : Str} {ws : List Str} (h : PW p ws) : p ≠ "" := by
  intro e
  have := h.split
  rw [e, split_one (by decide +kernel)] at this
  have h2 := (h.wd "" (by rw [← this]; simp)).lo
  have : ("" : Str).length = 0 := by decide +kernel
  omega
def depth (p : Str) : Nat := if p = "" then 0 else (Txt.split p "_").length
theorem PW.depth {p : Str} {ws : List Str} (h : PW p ws) : depth p = ws.length := by
  unfold Toy.depth
  rw [if_neg h.ne, h.split]
theorem PW.depth_above {p : Str} {ws : List Str} (h : PW p ws) : Toy.depth p = Toy.depth (Lf.above p) + 1 ∧ Toy.depth p ≤ 3 := by
  have := h.hi
  rw [h.depth]
  rcases h.above with ⟨h1, h2⟩ | ⟨h1, h2⟩
  · rw [h2, h1]
    exact ⟨rfl, by decide⟩
  · rw [h2.depth, List.length_dropLast]
    omega
/-- records as a schema reads them -/
abbrev Rec := Str × Str × List (Str × Int)
def SchOf (t : Str) (rs : List Rec) : Sch := ⟨t, rs.map fun r => (r.1, r.2.1), rs.map fun r => (r.1, r.2.2)⟩
structure RecOk (r : Rec) : Prop where
  pw : ∃ ws, PW r.1 ws
  mr : r.2.1 ∈ (["*", "!", "?"] : List Str)
  cs : ColsOk r.2.2
/-- the first is the root, the others are paths -/
structure RecsOk (c0 : List (Str × Int)) (rs : List Rec) : Prop where
  c0 : ColsOk c0
  rs : ∀ r ∈ rs, RecOk r
def allR (c0 : List (Str × Int)) (rs : List Rec) : List Rec := (Str.ofString "", Str.ofString "", c0) :: rs
def recText (r : Rec) : Str := lineText (r.1 ++ r.2.1) r.2.2
def linesR (w : Str) (c0 : List (Str × Int)) (rs : List Rec) : List Str := lineText w c0 :: rs.map recText
def textR (w : Str) (c0 : List (Str × Int)) (rs : List Rec) : Str := Txt.join "\n" (linesR w c0 rs)
theorem recText_nl {r : Rec} (h : RecOk r) : 10 ∉ TL.tl (recText r) := lineText_nl h.cs fun z => by
  obtain ⟨ws, pw⟩ := h.pw
  rw [TL.tl_append, List.mem_append] at z
  rcases z with z | z
  · have := pw.ls z; omega
  · have := (mark_len h.mr).2 10 z; omega
theorem textR_lines {w : Str} {c0 : List (Str × Int)} {rs : List Rec} (hw : LW w) (h : RecsOk c0 rs) : linesOf (textR w c0 rs) = enumI (linesR w c0 rs) := lines_split (by simp [linesR]) fun l hl => by
  rcases List.mem_cons.mp hl with rfl | hl
  · exact lineText_nl h.c0 (hw.sp (by decide))
  · obtain ⟨r, hr, rfl⟩ := List.mem_map.mp hl
    exact recText_nl (h.rs r hr)
theorem wfS_of {t : Str} {c0 : List (Str × Int)} {rs : List Rec} (h : RecsOk c0 rs) (hl : rs.length ≤ 6) : WfS (SchOf t (allR c0 rs)) := by
  refine ⟨?_, ?_, ?_⟩
  · show ((allR c0 rs).map _).length ≤ 7
    rw [List.length_map]
    show rs.length + 1 ≤ 7
    omega
  · intro z hz
    obtain ⟨r, hr, rfl⟩ := List.mem_map.mp hz
    rcases List.mem_cons.mp hr with rfl | hr
    · show ("" : Str).length ≤ 1000
      decide +kernel
    · obtain ⟨ws, pw⟩ := (h.rs r hr).pw
      have := pw.len
      show r.1.length ≤ 1000
      omega
  · intro z hz
    obtain ⟨r, hr, rfl⟩ := List.mem_map.mp hz
    have key : ∀ cs, ColsOk cs → cs.length ≤ 2 ∧ ∀ c ∈ cs, 0 ≤ c.2 ∧ c.2 ≤ 3 := fun cs hc => ⟨hc.hi, fun c hm => by have := hc.tp c hm; omega⟩
    rcases List.mem_cons.mp hr with rfl | hr
    · exact key c0 h.c0
    · exact key _ (h.rs r hr).cs
theorem hasA_mem {α : Type} {kvs : List (Str × α)} {k : Str} : hasA kvs k = true ↔ k ∈ kvs.map (·.1) := by
  unfold hasA
  rw [List.any_eq_true, List.mem_map]
  constructor
  · rintro ⟨p, hp, e⟩; exact ⟨p, hp, of_decide_eq_true e⟩
  · rintro ⟨p, hp, e⟩; exact ⟨p, hp, decide_eq_true e⟩
theorem SchOf_fields {t : Str} {rs : List Rec} {p : Str} : hasA (SchOf t rs).fields p = true ↔ p ∈ rs.map (·.1) := by
  rw [hasA_mem]
  show p ∈ (rs.map fun r => (r.1, r.2.2)).map (·.1) ↔ _
  rw [List.map_map]
  rfl
theorem SchOf_marks {t : Str} {rs : List Rec} {p : Str} : hasA (SchOf t rs).marks p = true ↔ p ∈ rs.map (·.1) := by
  rw [hasA_mem]
  show p ∈ (rs.map fun r => (r.1, r.2.1)).map (·.1) ↔ _
  rw [List.map_map]
  rfl
theorem pre_many_of {t : Str} {c0 : List (Str × Int)} {rs : List Rec} (h : RecsOk c0 rs) (hl : rs.length ≤ 6) : ∀ {fu : Nat} {p : Str}, p ∈ (allR c0 rs).map (·.1) → 4 ≤ depth p + fu → fu ≤ 6 → pre_many fu (SchOf t (allR c0 rs)) p
  | 0, p, hp, hd, hf => by
    obtain ⟨r, hr, rfl⟩ := List.mem_map.mp hp
    rcases List.mem_cons.mp hr with rfl | hr
    · have : depth (Str.ofString "") = 0 := rfl
      rw [this] at hd
      omega
    · obtain ⟨ws, pw⟩ := (h.rs r hr).pw
      have := pw.depth_above.2
      omega
  | fu + 1, p, hp, hd, hf => by
    refine ⟨hf, wfS_of h hl, SchOf_fields.mpr hp, fun z hz hm ha => ?_⟩
    obtain ⟨r, hr, rfl⟩ := List.mem_map.mp hz
    refine pre_many_of h hl (List.mem_map.mpr ⟨r, hr, rfl⟩) ?_ (by omega)
    rcases List.mem_cons.mp hr with rfl | hr
    · exact absurd (show decide ((Str.ofString "") ∈ (["!", "?"] : List Str)) = true from hm) (by decide +kernel)
    · obtain ⟨ws, pw⟩ := (h.rs r hr).pw
      have := pw.depth_above.1
      rw [show Lf.above r.1 = p from ha] at this
      show 4 ≤ depth r.1 + fu
      omega

end
end Toy

set_option Elab.async false
set_option linter.all false
set_option maxRecDepth 100000
set_option maxHeartbeats 4000000
set_option pp.maxSteps 300
set_option pp.deepTerms false
namespace Toy
open PySem L2 Lf
section
variable {P : Program} {w : World} {K : PySem.W.Frag} {mg : Str → Option Value} {base : Heap} {a : Ad}

theorem putA_new {α : Type} {kvs : List (Str × α)} {k : Str} {x : α} (h : ¬ hasA kvs k = true) : putA kvs k x = kvs ++ [(k, x)] := by
  unfold putA
  rw [if_neg h]
theorem put_SchOf {t : Str} {rs : List Rec} {r : Rec} (h : r.1 ∉ rs.map (·.1)) : (SchOf t rs).put r = SchOf t (rs ++ [r]) := by
  unfold Sch.put
  rw [putA_new (fun z => h (SchOf_marks.mp z)), putA_new (fun z => h (SchOf_fields.mp z))]
  unfold SchOf
  simp
theorem admits_new {t : Str} {rs : List Rec} {p : Str} (h : (SchOf t rs).admits p false = true) : p ∉ rs.map (·.1) ∧ Lf.above p ∈ rs.map (·.1) := by
  unfold Sch.admits at h
  rw [if_neg (by decide)] at h
  by_cases c : ((hasA (SchOf t rs).marks p) || (!hasA (SchOf t rs).marks (Lf.above p))) = true
  · rw [if_pos c] at h; cases h
  · simp only [Bool.or_eq_true, not_or, Bool.not_eq_true', Bool.not_eq_false] at c
    exact ⟨fun z => c.1 (SchOf_marks.mpr z), SchOf_marks.mp c.2⟩
theorem readLine_rec {r : Rec} (h : RecOk r) : readLine (recText r) false = some r := by
  obtain ⟨ws, pw⟩ := h.pw
  exact (line_next pw h.mr h.cs false).1
theorem step_rec {s : Sch} {i : Nat} {r : Rec} (h : RecOk r) : stepS (.ok s) (((i + 1 : Nat) : Int), recText r) = if (decide (i + 1 = 6) || !(s.admits r.1 false)) = true then .error ((i + 1 : Nat) : Int) else if (s.put r).full = true then .error ((i + 1 : Nat) : Int) else .ok (s.put r) := by
  unfold stepS
  dsimp only
  rw [decide_eq_false (show ¬ ((i + 1 : Nat) : Int) = 0 by omega), readLine_rec h]
  have e : decide (((i + 1 : Nat) : Int) = 6) = decide (i + 1 = 6) := by
    by_cases c : i + 1 = 6
    · rw [decide_eq_true c, decide_eq_true (by omega)]
    · rw [decide_eq_false c, decide_eq_false (by omega)]
  rw [e]
  rfl
theorem step_first {t : Str} {w : Str} {c0 : List (Str × Int)} (hw : LW w) (h : ColsOk c0) : stepS (.ok ⟨t, [], []⟩) (0, lineText w c0) = if (SchOf t (allR c0 [])).full = true then .error 0 else .ok (SchOf t (allR c0 [])) := by
  unfold stepS
  dsimp only
  rw [decide_eq_true (show (0 : Int) = 0 from rfl), (line_first hw h true).1]
  rfl
section
variable {t w : Str} {c0 : List (Str × Int)} {rs : List Rec}
theorem lines_zero (hw : LW w) (h : RecsOk c0 rs) (ht : t = textR w c0 rs) : (linesOf t)[0]? = some (0, lineText w c0) := by rw [ht, textR_lines hw h, enumI_get]; rfl
theorem lines_succ (hw : LW w) (h : RecsOk c0 rs) (ht : t = textR w c0 rs) {j : Nat} : (linesOf t)[j + 1]? = rs[j]?.map fun r => (((j + 1 : Nat) : Int), recText r) := by
  rw [ht, textR_lines hw h, enumI_get]
  show ((rs.map recText)[j]?).map _ = _
  rw [List.getElem?_map, Option.map_map]
  rfl
theorem take_rec {j : Nat} {r : Rec} (h : rs[j]? = some r) : allR c0 (rs.take (j + 1)) = allR c0 (rs.take j) ++ [r] := by
  unfold allR
  rw [List.take_add_one, h]
  rfl
/-- whatever is read so far is what the records say -/
theorem parse_shape (hw : LW w) (h : RecsOk c0 rs) (ht : t = textR w c0 rs) : ∀ (j : Nat) (s : Sch), j ≤ rs.length → ((linesOf t).take (j + 1)).foldl stepS (.ok ⟨t, [], []⟩) = .ok s → s = SchOf t (allR c0 (rs.take j))
  | 0, s, _, hs => by
    rw [take_fold _ _ _ (lines_zero hw h ht), List.take_zero, List.foldl_nil, step_first hw h.c0] at hs
    by_cases c : (SchOf t (allR c0 [])).full = true
    · rw [if_pos c] at hs; cases hs
    · rw [if_neg c] at hs; cases hs; rfl
  | j + 1, s, hj, hs => by
    have hr : rs[j]? = some rs[j] := List.getElem?_eq_getElem (by omega)
    have hz : (linesOf t)[j + 1]? = some (((j + 1 : Nat) : Int), recText rs[j]) := by rw [lines_succ hw h ht, hr]; rfl
    have ro := h.rs _ (List.mem_of_getElem? hr)
    rw [take_fold _ _ _ hz] at hs
    cases e : ((linesOf t).take (j + 1)).foldl stepS (.ok ⟨t, [], []⟩) with
    | error x => rw [e] at hs; cases hs
    | ok s0 =>
      have ih := parse_shape hw h ht j s0 (by omega) e
      rw [e, step_rec ro] at hs
      by_cases c : (decide (j + 1 = 6) || !(s0.admits rs[j].1 false)) = true
      · rw [if_pos c] at hs; cases hs
      · rw [if_neg c] at hs
        simp only [Bool.or_eq_true, not_or, Bool.not_eq_true', Bool.not_eq_false] at c
        rw [ih] at c
        by_cases c2 : (s0.put rs[j]).full = true
        · rw [if_pos c2] at hs; cases hs
        · rw [if_neg c2] at hs
          cases hs
          rw [ih, put_SchOf (admits_new c.2).1, take_rec hr]
theorem RecsOk.take (h : RecsOk c0 rs) (j : Nat) : RecsOk c0 (rs.take j) := ⟨h.c0, fun r hr => h.rs r (List.mem_of_mem_take hr)⟩
theorem hds_ok (h : RecsOk c0 rs) (hl : rs.length ≤ 6) : pre_shds (SchOf t (allR c0 rs)) ∧ (SchOf t (allR c0 rs)).heads.length ≤ sizeLine ∧ ∀ head ∈ (SchOf t (allR c0 rs)).heads, pre_many 4 (SchOf t (allR c0 rs)) head := by
  have hm : (SchOf t (allR c0 rs)).marks.length ≤ 7 := (wfS_of h hl).few
  refine ⟨sz_of (by omega), sz_of ?_, fun p hp => ?_⟩
  · unfold Sch.heads
    rw [List.length_map]
    exact Nat.le_trans (List.length_filter_le _ _) (by omega)
  · unfold Sch.heads at hp
    obtain ⟨z, hz, rfl⟩ := List.mem_map.mp hp
    obtain ⟨r, hr, rfl⟩ := List.mem_map.mp (List.mem_filter.mp hz).1
    exact pre_many_of h hl (List.mem_map.mpr ⟨r, hr, rfl⟩) (by omega) (by decide)
theorem parseOk_of (hw : LW w) (h : RecsOk c0 rs) (ht : t = textR w c0 rs) (hl : rs.length ≤ 6) (htl : t.length + 2 ≤ sizeLine) : ParseOk t := by
  refine ⟨htl, fun i z s hz hs => ?_⟩
  cases i with
  | zero =>
    rw [lines_zero hw h ht] at hz
    cases hz
    cases hs
    have e := line_first hw h.c0 true
    refine ⟨(line_first hw h.c0 _).2, fun f hf _ hb => ?_, ⟨sz_lt (show 0 < 100000 by decide), sz_lt (show 0 < 100000 by decide)⟩, fun f hf _ _ => ?_⟩
    · exact absurd (show decide ((0 : Int) = 0) = false from hb) (by decide)
    · have hf : readLine (lineText w c0) true = some f := hf
      rw [e.1] at hf
      cases hf
      exact hds_ok (rs := []) ⟨h.c0, fun r hr => nomatch hr⟩ (by simp)
  | succ j =>
    rw [lines_succ hw h ht] at hz
    obtain ⟨r, hr, e⟩ := Option.map_eq_some_iff.mp hz
    cases e
    have hj : j < rs.length := (List.getElem?_eq_some_iff.mp hr).1
    have ro := h.rs r (List.mem_of_getElem? hr)
    have sh := parse_shape hw h ht j s (by omega) hs
    subst sh
    obtain ⟨ws, pw⟩ := ro.pw
    have hk := h.take j
    have wf : WfS (SchOf t (allR c0 (rs.take j))) := wfS_of hk (by rw [List.length_take]; omega)
    have rl : ∀ b : Bool, b = false → readLine (recText r) b = some r := fun b e => by rw [e]; exact readLine_rec ro
    have df : decide (((j + 1 : Nat) : Int) = 0) = false := decide_eq_false (by omega)
    refine ⟨(line_next pw ro.mr ro.cs _).2, fun f hf h6 hb => ?_, ?_, fun f hf h6 ha => ?_⟩
    · have hf : readLine (recText r) (decide (((j + 1 : Nat) : Int) = 0)) = some f := hf
      rw [rl _ df] at hf
      cases hf
      have := pw.len
      refine ⟨by omega, fun ha => ?_⟩
      have hp := SchOf_marks.mp ha
      have hfl := (SchOf_fields (t := t)).mpr hp
      obtain ⟨q, q1, _, q3⟩ := getA_mem hfl
      refine ⟨?_, hfl, by rw [← q3]; have := (wf.cols q q1).1; omega⟩
      obtain ⟨r2, hr2, e2⟩ := List.mem_map.mp hp
      rw [← e2]
      have := wf.short (r2.1, r2.2.1) (List.mem_map.mpr ⟨r2, hr2, rfl⟩)
      show r2.1.length ≤ 100000
      have : r2.1.length ≤ 1000 := this
      omega
    · have := wf.few
      have e : (SchOf t (allR c0 (rs.take j))).fields.length = (SchOf t (allR c0 (rs.take j))).marks.length := by unfold SchOf; rw [List.length_map, List.length_map]
      exact ⟨sz_lt (by omega), sz_lt (by omega)⟩
    · have hf : readLine (recText r) (decide (((j + 1 : Nat) : Int) = 0)) = some f := hf
      rw [rl _ df] at hf
      cases hf
      have ha : (SchOf t (allR c0 (rs.take j))).admits r.1 (decide (((j + 1 : Nat) : Int) = 0)) = true := ha
      rw [df] at ha
      rw [put_SchOf (admits_new ha).1, ← take_rec hr]
      exact hds_ok (h.take (j + 1)) (by rw [List.length_take]; omega)
end

end
end Toy

set_option Elab.async false
set_option linter.all false
set_option maxRecDepth 100000
set_option maxHeartbeats 4000000
set_option pp.maxSteps 300
set_option pp.deepTerms false
namespace Toy
open PySem L2 Lf
section
variable {P : Program} {w : World} {K : PySem.W.Frag} {mg : Str → Option Value} {base : Heap} {a : Ad}

def grpStep (f : List Str) (z : Str × Str) : List Str := if ((decide (z.2 ∈ (["!", "?"] : (List Str)))) && (decide ((above z.1) ∈ f))) = true then f ++ [z.1] else f
theorem grp_yes {f : List Str} {z : Str × Str} (c : ((decide (z.2 ∈ (["!", "?"] : (List Str)))) && (decide ((above z.1) ∈ f))) = true) : grpStep f z = f ++ [z.1] := if_pos c
theorem grp_no {f : List Str} {z : Str × Str} (c : ¬ ((decide (z.2 ∈ (["!", "?"] : (List Str)))) && (decide ((above z.1) ∈ f))) = true) : grpStep f z = f := if_neg c
def Sch.group (s : Sch) (p : Str) : List Str := s.marks.foldl grpStep [p]
def pre_sgrp (s : Sch) (p : Str) : Prop := s.has p = true ∧ WfS s
theorem grp_len : ∀ (zs : List (Str × Str)) (f : List Str), (zs.foldl grpStep f).length ≤ f.length + zs.length
  | [], f => by simp
  | z :: zs, f => by
    rw [List.foldl_cons]
    have h := grp_len zs (grpStep f z)
    have : (grpStep f z).length ≤ f.length + 1 := by
      unfold grpStep
      split
      · simp
      · omega
    rw [List.length_cons]
    omega
theorem grp_mem : ∀ (zs : List (Str × Str)) (f : List Str) (q : Str), q ∈ zs.foldl grpStep f → q ∈ f ∨ q ∈ zs.map (·.1)
  | [], f, q, h => .inl h
  | z :: zs, f, q, h => by
    rw [List.foldl_cons] at h
    rcases grp_mem zs _ q h with h | h
    · unfold grpStep at h
      split at h
      · rcases List.mem_append.mp h with h | h
        · exact .inl h
        · rw [List.mem_singleton.mp h]; exact .inr (List.mem_cons_self ..)
      · exact .inl h
    · exact .inr (List.mem_cons_of_mem _ h)
def W_Schema_group_k2 (found2 : (List Str)) (P : (List Str) → Prop) (nx : (List Str) → Prop) : Prop :=
  nx found2
def W_Schema_group_b1 (found : (List Str)) (z : (Str × Str)) (P : (List Str) → Prop) (nx : (List Str) → Prop) : Prop :=
  ((decide (z.2 ∈ (["!", "?"] : (List Str)))) = true → pre_above z.1) ∧ (if ((decide (z.2 ∈ (["!", "?"] : (List Str)))) && (decide ((above z.1) ∈ found))) = true then ((found.length < sizeLine) ∧ ∀ found3 : (List Str), found3 = (found ++ [z.1]) → W_Schema_group_k2 found3 P nx) else (W_Schema_group_k2 found P nx))
def W_Schema_group_k1 (found : (List Str)) (P : (List Str) → Prop) : Prop :=
  P found
def W_Schema_group (self : Sch) (path : Str) (P : (List Str) → Prop) : Prop :=
  (if (!Sch.has self path) = true then (False) else (∃ Inv : Nat → (List Str) → Prop, Inv 0 ([path] : (List Str)) ∧ (∀ (i : Nat) (z : (Str × Str)) (found : (List Str)), self.marks[i]? = some z → Inv i found → W_Schema_group_b1 found z P (Inv (i + 1))) ∧ (∀ (found : (List Str)), Inv self.marks.length found → W_Schema_group_k1 found P)))
theorem dW_Schema_group {s : Sch} {p : Str} (hp : pre_sgrp s p) (P : List Str → Prop) (h : P (s.group p)) : W_Schema_group s p P := by
  obtain ⟨h1, w⟩ := hp
  unfold W_Schema_group
  rw [h1]
  refine iteF ⟨fun i f => f = (s.marks.take i).foldl grpStep [p], rfl, ?_, ?_⟩
  · rintro i z f hi rfl
    have hm := List.mem_of_getElem? hi
    have st : (s.marks.take (i + 1)).foldl grpStep [p] = grpStep ((s.marks.take i).foldl grpStep [p]) z := take_fold _ _ _ hi
    refine ⟨fun _ => sz_of (by have := w.short z hm; omega), ?_⟩
    by_cases c : ((decide (z.2 ∈ (["!", "?"] : (List Str)))) && (decide ((above z.1) ∈ (s.marks.take i).foldl grpStep [p]))) = true
    · rw [if_pos c]
      refine ⟨sz_lt ?_, fun f3 hf3 => ?_⟩
      · have := grp_len (s.marks.take i) [p]
        rw [List.length_take] at this
        have := w.few
        simp only [List.length_singleton] at *
        omega
      · show f3 = _
        rw [st, hf3, grp_yes c]
    · rw [if_neg c]
      show _ = _
      rw [st, grp_no c]
  · rintro f rfl
    rw [List.take_length]
    exact h
def sp_Schema_group (K : PySem.W.Frag) (a : Ad) : Sp := spF K (fun (x : Sch × Str) => [(eSch a.C_Schema) x.1, D.str x.2]) (eL D.str) (fun (x : Sch × Str) => pre_sgrp x.1 x.2) (fun (x : Sch × Str) => Sch.group x.1 x.2)
theorem cd_Schema_group {E : XK} (self : Sch) (path : Str) (hp : pre_sgrp self path) : CaD K (fun vs H Q => sp_Schema_group K a vs H Q E) [.im ((eSch a.C_Schema) self), .im (D.str path)] (.im ((eL D.str) (Sch.group self path))) := cd_fn (ens := (fun (x : Sch × Str) => [(eSch a.C_Schema) x.1, D.str x.2])) (er := (eL D.str)) (self, path) hp
theorem sc_Schema_group : FnScope ["self", "path", "found", "other", "mark"] ["self", "path"] (defScope s_Schema_group) := ⟨rfl, rfl, rfl, by decide +kernel, rfl, by decide +kernel, by decide +kernel⟩
theorem ok_Schema_group (T : Txt K mg a) : FnOk P w K mg base CX0 3 a.f_Schema_group a.d_Schema_group ["self", "path"] (sp_Schema_group K a) := by
  refine T.F_Schema_group.ok sc_Schema_group (fun vs H Q E h => ?_) (fun cdv A outer s H vs Q E hr h => ?_)
  · obtain ⟨M0, x, w0, hx, _⟩ := h
    exact hx.len
  · obtain ⟨M0, x, w0, hx, hp, kq⟩ := h
    obtain ⟨self, path⟩ := x
    have hx : rDs K (Fx M0 H) [(eSch a.C_Schema) self, D.str path] vs := hx
    obtain ⟨v2, _, rfl, h3, v, _, rfl, h2, rfl⟩ := hx
    obtain ⟨Y, eY⟩ : ∃ Y : List Addr, Y = [] := ⟨_, rfl⟩
    have g : Gd M0 [] Y H H := Gd.start w0 (by rw [eY]; exact fun y h => nomatch h)
    have h3 : rV K (mxM M0 []) H (.im ((eSch a.C_Schema) self)) v2 := rV.lx Gd.lx0 (show rV K M0 H (.im ((eSch a.C_Schema) self)) v2 from h3)
    cases (show v = (V.str path) from h2)
    obtain ⟨P, eP⟩ : ∃ P : (List Str) → Prop, P = fun r => r = Sch.group self path := ⟨_, rfl⟩
    have kk : ∀ r v H2, P r → Wd M0 H2 → Same H H2 → rD K (Fx M0 H2) ((eL D.str) r) v → Q v H2 := fun r v H2 e => by rw [eP] at e; rw [show r = Sch.group self path from e]; exact kq v H2
    have hw : W_Schema_group self path P := dW_Schema_group hp P (by rw [eP])
    unfold W_Schema_group at hw
    refine ⟨_, (pss_cons (ps_if (pt_cmpR (op_notInOwn (C := a.C_Schema) T.f_Schema__contains T.i_Schema__contains (raw0 ((ok_Schema__contains T).raw T.a_Schema__contains .nil)) (hr.mono (by decide)) pass0) (pv 1) (pv 0) rfl) (pss_cons (ps_raise rfl takes0 (pmk_oex T.e_BadHead.ox T.f_BadHead__init T.ty_BadHead__init (ok_BadHead__init T) (hr.mono (by decide)) T.a_BadHead__init .nil pass0 rfl T.m_BadHead (pa_cons (pv 1) pa_nil)))
      pss_nil) pss_nil)
      (pss_cons (ps_set (i := 2) sc_Schema_group.nd rfl (.inl rfl) (pe_lstS (pa_cons (pv 1) pa_nil)))
      (pss_cons (ps_for PassesOwn.never rfl (pi_items (pe_fld (pv 0) rfl)) (pg_tup rfl (pgs_cons (pg_name (i := 3) sc_Schema_group.nd rfl (.inl rfl)) (pgs_cons (pg_name (i := 4) sc_Schema_group.nd rfl (.inl rfl)) pgs_nil)))
      (pss_cons (ps_if (PW.pt (pw_and (pt_cmpR op_in_seq (pv 4) (pe_tupS (pa_cons pe_str (pa_cons pe_str pa_nil))) rfl) (pw_and1 (pt_cmpR op_in_seq (pe_call (ok_path_above T) (hr.mono (by decide)) rfl T.m_path_above T.k_path_above T.a_path_above .nil pass0 (pa_cons (pv 3) pa_nil)) (pv 2) rfl)))) (pss_cons (ps_expr (pe_bm PySem.F.plainAttrs_list PySem.F.slot_list_append PySem.F.type_list_append mt_append (pv 2) (pa_cons (pv 3) pa_nil)))
      pss_nil) pss_nil)
      pss_nil))
      (pss_cons (ps_ret (pv 2))
      pss_nil)))), ?_⟩
    refine st_if ?_
    refine EVT.go (b := (!Sch.has self path)) (evt_test (K := K) (ev_op (ev_vs (i := 1) rfl) (ev_var (d := (.im ((eSch a.C_Schema) self))) (i := 0) rfl h3) (od_inOwn true (cd_Schema__contains self path True.intro)))) g.wd fun H2 wd s2 => ?_
    have g2 := g.same s2
    refine wite hw (fun hw => ?_) (fun hw => ?_)
    · skip
      exact hw.elim
    · skip
      refine Lf.st_next ?_
      refine st_set ?_
      refine EVN.go (K := K) (evn_lst (ds := [D.str path]) (eva_cons (ev_vs (i := 1) rfl) eva_nil) (Nat.le_of_ble_eq_true rfl)) g2.wd fun p H3 H4 wd2 s3 np s4 vs2 hp2 hv => ?_
      have g3 := g2.same s3
      have ex := Gd.ex_new (M0 := M0) (Ls := []) s4 np
      have g4 := g3.new s4 np hp2
      have h4 : rV K (mxM M0 [p]) H4 (.mu p (List.map D.str ([path] : (List Str)))) (V.ref p) := ⟨rfl, vs2, hp2, rDs.mono ex.lx _ _ hv⟩
      refine st_for ?_
      have h5 : rV K (mxM M0 [p]) H4 (.im ((eSch a.C_Schema) self)) v2 := (((h3.same s2).same s3).ex ex)
      refine EVI.gom (K := K) (en := (eP2 D.str D.str)) (xs := self.marks) (evi_items (en := D.str) (kvs := self.marks) (ev_fld 1 (ev_var (d := (.im ((eSch a.C_Schema) self))) (i := 0) rfl h5) T.c_Schema T.n_Schema_marks (by decide) rfl rfl)) g4.wd fun J H5 wd3 s5 wk => ?_
      have g5 := g4.same s5
      have h6 := rV.same s5 h4
      obtain ⟨Inv, hI, hI2, hI3⟩ := hw
      refine st_forit wk (fun i σ' H' => ∃ (found : (List Str)) (o : Option V) (o2 : Option V), σ' = [some v2, some (V.str path), some (V.ref p), o, o2] ∧ Gd M0 [p] Y H H' ∧ Lx (mxM M0 [p]) (mxM M0 [p]) H5 H' ∧ rV K (mxM M0 [p]) H' (.mu p (List.map D.str found)) (V.ref p) ∧ Inv i found) ⟨([path] : (List Str)), _, _, rfl, g5, Lx.refl, h6, hI⟩ (fun i σ' H' _ ⟨_, _, _, _, _, hl, _⟩ => ⟨_, hl⟩) ?_ ?_
      · rintro i x2 σ' H6 H7 hi ⟨found, o, o2, rfl, g6, l, h7, hI4⟩ yd
        obtain ⟨z, hy, s6, hr2⟩ := yd_map yd
        have hw := hI2 i z  found hy hI4
        have hr2 := hr2 _ g6.wd l
        have g7 := g6.same s6
        have h8 := rV.same s6 h7
        refine g_tup2 (d1 := D.str z.1) (d2 := D.str z.2) hr2 fun v3 v4 h9 h10 => ?_
        cases (show v3 = (V.str z.1) from h9)
        cases (show v4 = (V.str z.2) from h10)
        unfold W_Schema_group_b1 at hw
        try dsimp only [gName]
        refine if_cut (fun σ' H' => ∃ (found2 : (List Str)), σ' = [some v2, some (V.str path), some (V.ref p), some (V.str z.1), some (V.str z.2)] ∧ Gd M0 [p] Y H H' ∧ Lx (mxM M0 [p]) (mxM M0 [p]) H7 H' ∧ rV K (mxM M0 [p]) H' (.mu p (List.map D.str found2)) (V.ref p) ∧ W_Schema_group_k2 found2 P (Inv (i + 1))) (fun nx hnx => ?_) ?_
        · obtain ⟨c, hw⟩ := hw
          refine EVT.go (b := ((decide (z.2 ∈ (["!", "?"] : (List Str)))) && (decide ((above z.1) ∈ found)))) (evt_and (evt_test (K := K) (ev_op (ev_vs (i := 4) rfl) (ev_tup (ds := [D.str "!", D.str "?"]) (eva_cons ev_str (eva_cons ev_str eva_nil)) (Nat.le_of_ble_eq_true rfl)) (od_inS (xs := (["!", "?"] : (List Str))) (.inr rfl)))) fun hb => (evt_test (K := K) (ev_op (ev_call (eva_cons (ev_vs (i := 3) rfl) eva_nil) (cd_path_above z.1 (c hb))) (ev_var (d := (.mu p (List.map D.str found))) (i := 2) rfl h8) (od_inS (xs := found) (.inl LsOf.mu))))) g7.wd fun H8 wd4 s7 => ?_
          have g8 := g7.same s7
          have h12 := rV.same s7 h8
          refine wite hw (fun hw => ?_) (fun hw => ?_)
          · skip
            refine st_expr ?_
            refine x_bm (ev_var (d := (.mu p (List.map D.str found))) (i := 2) rfl h12) LsOf.mu g8.wd fun v5 H9 wd5 s8 h13 => ?_
            have g9 := g8.same s8
            have h14 := rV.same s8 h12
            cases h13.1
            refine x_cons ?_
            refine EV.go (K := K) (d := (.im (D.str z.1))) (ev_vs (i := 3) rfl) g9.wd fun v6 H10 wd6 s9 h15 => ?_
            have g10 := g9.same s9
            have h16 := rV.same s9 h14
            cases (show v6 = (V.str z.1) from h15)
            refine x_nil ?_
            obtain ⟨c2, hw⟩ := hw
            refine x_append (d := D.str z.1) h16 rfl (by simp) (by rw [List.length_map]; exact c2) fun H11 ⟨vs3, eu⟩ h17 => ?_
            obtain ⟨found3, efound3⟩ : ∃ z_ : (List Str), z_ = (found ++ [z.1]) := ⟨_, rfl⟩
            have hw := hw found3 efound3
            have h17 : rV K (mxM M0 [p]) H11 (.mu p (List.map D.str found3)) (V.ref p) := by rw [efound3, List.map_append]; exact h17
            subst eu
            have g11 : Gd M0 [p] Y H (upd H10 p (.lst vs3)) := g10.upd (by simp)
            have l2 : Lx (mxM M0 [p]) (mxM M0 [p]) H10 (upd H10 p (.lst vs3)) := Gd.lx_upd (by simp)
            exact hnx _ _ ⟨found3, rfl, g11, ((((Lx.same s7).trans (Lx.same s8)).trans (Lx.same s9)).trans l2), h17, hw⟩
          · skip
            exact hnx _ _ ⟨found, rfl, g8, (Lx.same s7), h12, hw⟩
        rintro σ' H12 ⟨found2, rfl, g12, l3, h11, hw⟩
        exact ⟨found2, _, _, rfl, g12, ((l.trans (Lx.same s6)).trans l3), h11, hw⟩
      · rintro σ' H13 ⟨found, o, o2, rfl, g13, l4, h7, hI5⟩
        have hw := hI3 found hI5
        unfold W_Schema_group_k1 at hw
        refine st_ret ?_
        refine EV.go (K := K) (d := (.mu p (List.map D.str found))) (ev_var (d := (.mu p (List.map D.str found))) (i := 2) rfl h7) g13.wd fun v7 H14 wd7 s10 h18 => ?_
        have g14 := g13.same s10
        have h19 := rV.same s10 h7
        exact kk _ _ _ hw g14.w_end (Bu.nil g14.bu eY) (mu_ret h18 g14 (by simp))

end
end Toy

set_option Elab.async false
set_option linter.all false
set_option maxRecDepth 100000
set_option maxHeartbeats 4000000
set_option pp.maxSteps 300
set_option pp.deepTerms false
namespace Toy
open PySem L2 Lf
section
variable {P : Program} {w : World} {K : PySem.W.Frag} {mg : Str → Option Value} {base : Heap} {a : Ad}

def valStep (f : List (List Int)) (z : Str × Int) : List (List Int) := (f.flatMap fun (values : List Int) => (rngI 0 (z.2 + 1)).map fun (value : Int) => (values ++ ([value] : (List Int))))
def allValues (cs : List (Str × Int)) : List (List Int) := cs.foldl valStep [[]]
def pre_allv (cs : List (Str × Int)) : Prop := cs.length ≤ 2 ∧ ∀ c ∈ cs, 0 ≤ c.2 ∧ c.2 ≤ 3
theorem valStep_len {f : List (List Int)} {z : Str × Int} (h : 0 ≤ z.2) : (valStep f z).length = f.length * (z.2 + 1).toNat := by
  unfold valStep
  rw [List.length_flatMap]
  simp only [List.length_map, rngI_len, Int.sub_zero]
  rw [List.map_const', List.sum_replicate_nat]
theorem valStep_mem {f : List (List Int)} {z : Str × Int} {v : List Int} (h : v ∈ valStep f z) : ∃ u ∈ f, ∃ x, 0 ≤ x ∧ x ≤ z.2 ∧ v = u ++ [x] := by
  unfold valStep at h
  obtain ⟨u, hu, h⟩ := List.mem_flatMap.mp h
  obtain ⟨x, hx, rfl⟩ := List.mem_map.mp h
  have := rngI_mem.mp hx
  exact ⟨u, hu, x, this.1, by omega, rfl⟩
theorem vals_len : ∀ (cs : List (Str × Int)) (f : List (List Int)) (n : Nat), (∀ v ∈ f, v.length = n) → ∀ v ∈ cs.foldl valStep f, v.length = n + cs.length
  | [], f, n, h => h
  | c :: cs, f, n, h => fun v hv => by
    have := vals_len cs (valStep f c) (n + 1) (fun u hu => by
      obtain ⟨w, hw, x, _, _, rfl⟩ := valStep_mem hu
      rw [List.length_append, h w hw]; rfl) v hv
    rw [this, List.length_cons]
    omega
theorem vals_many : ∀ (cs : List (Str × Int)) (f : List (List Int)), (∀ c ∈ cs, 0 ≤ c.2 ∧ c.2 ≤ 3) → (cs.foldl valStep f).length ≤ f.length * 4 ^ cs.length
  | [], f, h => by simp
  | c :: cs, f, h => by
    have hc := h c (List.mem_cons_self ..)
    have := vals_many cs (valStep f c) fun d hd => h d (List.mem_cons_of_mem _ hd)
    rw [valStep_len hc.1] at this
    rw [List.foldl_cons, List.length_cons, Nat.pow_succ]
    refine Nat.le_trans this ?_
    rw [Nat.mul_comm (4 ^ cs.length) 4, ← Nat.mul_assoc]
    exact Nat.mul_le_mul_right _ (Nat.mul_le_mul_left _ (by omega))
theorem allValues_len {cs : List (Str × Int)} : ∀ v ∈ allValues cs, v.length = cs.length := fun v hv => by
  have := vals_len cs [[]] 0 (by simp) v hv
  omega
theorem allValues_many {cs : List (Str × Int)} (h : pre_allv cs) : (allValues cs).length ≤ 16 := by
  have := vals_many cs [[]] h.2
  have h2 : 4 ^ cs.length ≤ 4 ^ 2 := Nat.pow_le_pow_right (by decide) h.1
  unfold allValues
  simp only [List.length_singleton, Nat.one_mul] at this
  omega
def W_all_values_b1 (found2 : (List (List Int))) (z : (Str × Int)) (P : (List (List Int)) → Prop) (nx : (List (List Int)) → Prop) : Prop :=
  (∀ values ∈ found2, -(2 ^ 62) ≤ ((z.2 + 1) : Int)) ∧ (∀ values ∈ found2, ((z.2 + 1) : Int) < 2 ^ 62) ∧ (∀ values ∈ found2, ∀ value ∈ (rngI 0 (z.2 + 1)), values.length + ([value] : (List Int)).length ≤ sizeLine) ∧ ((found2.flatMap fun (values : (List Int)) => (rngI 0 (z.2 + 1)).map fun (value : Int) => (values ++ ([value] : (List Int)))).length ≤ sizeLine) ∧ ∀ found3 : (List (List Int)), found3 = (found2.flatMap fun (values : (List Int)) => (rngI 0 (z.2 + 1)).map fun (value : Int) => (values ++ ([value] : (List Int)))) → nx found3
def W_all_values_k1 (found2 : (List (List Int))) (P : (List (List Int)) → Prop) : Prop :=
  P found2
def W_all_values (columns : (List (Str × Int))) (P : (List (List Int)) → Prop) : Prop :=
  ∀ found : (List (List Int)), found = ([([] : (List Int))] : (List (List Int))) → ∃ Inv : Nat → (List (List Int)) → Prop, Inv 0 found ∧ (∀ (i : Nat) (z : (Str × Int)) (found2 : (List (List Int))), columns[i]? = some z → Inv i found2 → W_all_values_b1 found2 z P (Inv (i + 1))) ∧ (∀ (found2 : (List (List Int))), Inv columns.length found2 → W_all_values_k1 found2 P)
theorem dW_all_values {cs : List (Str × Int)} (hp : pre_allv cs) (P : List (List Int) → Prop) (h : P (allValues cs)) : W_all_values cs P := by
  rintro _ rfl
  refine ⟨fun i f => f = (cs.take i).foldl valStep [[]], rfl, ?_, ?_⟩
  · rintro i z f hi rfl
    have hz := hp.2 z (List.mem_of_getElem? hi)
    have st : (cs.take (i + 1)).foldl valStep [[]] = valStep ((cs.take i).foldl valStep [[]]) z := take_fold _ _ _ hi
    have hl : (cs.take i).length ≤ 2 := by rw [List.length_take]; have := hp.1; omega
    have hv := vals_len (cs.take i) [[]] 0 (by simp)
    have hm := vals_many (cs.take i) [[]] fun c hc => hp.2 c (List.mem_of_mem_take hc)
    have h4 : 4 ^ (cs.take i).length ≤ 4 ^ 2 := Nat.pow_le_pow_right (by decide) hl
    refine ⟨fun _ _ => by omega, fun _ _ => by omega, fun v hm _ _ => sz_of ?_, sz_of ?_, fun f3 hf3 => ?_⟩
    · have := hv v hm
      simp only [List.length_singleton]
      omega
    · show (valStep _ z).length ≤ 100000
      rw [valStep_len hz.1]
      simp only [List.length_singleton, Nat.one_mul] at hm
      have : (z.2 + 1).toNat ≤ 4 := by omega
      calc _ ≤ 16 * 4 := Nat.mul_le_mul (by omega) this
        _ ≤ _ := by decide
    · show f3 = _
      rw [st, hf3]
      rfl
  · rintro f rfl
    rw [List.take_length]
    exact h
def sp_all_values (K : PySem.W.Frag) : Sp := spF K (fun (x : (List (Str × Int))) => [(eL (eP2 D.str D.int)) x]) (eL (eT D.int)) (fun (x : (List (Str × Int))) => pre_allv x) (fun (x : (List (Str × Int))) => allValues x)
theorem cd_all_values {E : XK} (columns : (List (Str × Int))) (hp : pre_allv columns) : CaD K (fun vs H Q => sp_all_values K vs H Q E) [.im ((eL (eP2 D.str D.int)) columns)] (.im ((eL (eT D.int)) (allValues columns))) := cd_fn (ens := (fun (x : (List (Str × Int))) => [(eL (eP2 D.str D.int)) x])) (er := (eL (eT D.int))) columns hp
theorem sc_all_values : FnScope ["columns", "found", "name", "top", "values", "value"] ["columns"] (defScope s_all_values) := ⟨rfl, rfl, rfl, by decide +kernel, rfl, by decide +kernel, by decide +kernel⟩
theorem ok_all_values (T : Txt K mg a) : FnOk P w K mg base CX0 1 a.f_all_values a.d_all_values ["columns"] (sp_all_values K) := by
  refine T.F_all_values.ok sc_all_values (fun vs H Q E h => ?_) (fun cdv A outer s H vs Q E hr h => ?_)
  · obtain ⟨M0, x, w0, hx, _⟩ := h
    exact hx.len
  · obtain ⟨M0, x, w0, hx, hp, kq⟩ := h
    obtain ⟨columns, ex⟩ : ∃ z, z = x := ⟨_, rfl⟩
    subst ex
    have hx : rDs K (Fx M0 H) [(eL (eP2 D.str D.int)) columns] vs := hx
    obtain ⟨v, _, rfl, h2, rfl⟩ := hx
    obtain ⟨Y, eY⟩ : ∃ Y : List Addr, Y = [] := ⟨_, rfl⟩
    have g : Gd M0 [] Y H H := Gd.start w0 (by rw [eY]; exact fun y h => nomatch h)
    have h2 : rV K (mxM M0 []) H (.im ((eL (eP2 D.str D.int)) columns)) v := rV.lx Gd.lx0 (show rV K M0 H (.im ((eL (eP2 D.str D.int)) columns)) v from h2)
    obtain ⟨P, eP⟩ : ∃ P : (List (List Int)) → Prop, P = fun r => r = allValues columns := ⟨_, rfl⟩
    have kk : ∀ r v H2, P r → Wd M0 H2 → Same H H2 → rD K (Fx M0 H2) ((eL (eT D.int)) r) v → Q v H2 := fun r v H2 e => by rw [eP] at e; rw [show r = allValues columns from e]; exact kq v H2
    have hw : W_all_values columns P := dW_all_values hp P (by rw [eP])
    unfold W_all_values at hw
    refine ⟨_, (pss_cons (ps_set (i := 1) sc_all_values.nd rfl (.inl rfl) (pe_lstS (pa_cons (pe_tupS pa_nil) pa_nil)))
      (pss_cons (ps_for PassesOwn.never rfl (pi_list (pv 0)) (pg_tup rfl (pgs_cons (pg_name (i := 2) sc_all_values.nd rfl (.inl rfl)) (pgs_cons (pg_name (i := 3) sc_all_values.nd rfl (.inr rfl)) pgs_nil)))
      (pss_cons (ps_setLc2 (i := 1) (own := [("values", 4), ("value", 5)]) (vs1 := [5]) (g := gName 4) (tt := tYes) (wi1 := (iRng1 (tCons (tOp rAddI (tVar 3) (tC (.int 1))) tNil))) (g1 := gName 5) (tt1 := tYes) (te := (tOp (rCatA K) (tVar 4) (tTupS (tCons (tVar 5) tNil)))) rfl sc_all_values.nd rfl rfl (sw_true rfl rfl rfl (by decide +kernel)) (pi_list (pv 1)) (blkOk_by (own := [("values", 4), ("value", 5)]) (N := ["columns", "found", "name", "top", "values", "value"]) (sc := defScope s_all_values) (by decide +kernel)) (by decide) (fun _ _ _ _ _ => (pg_name (i := 4) sc_all_values.nd rfl (.inl rfl))) (fun _ _ _ _ _ => pts_nil) (fun _ _ _ _ _ => (pi_range1 (by rfl) T.b_range (pa_cons (pe_op op_add (pv 3) pe_int) pa_nil))) (fun _ _ _ _ _ => (pg_name (i := 5) sc_all_values.nd rfl (.inl rfl))) (fun _ _ _ _ _ => pts_nil) (fun _ _ _ _ _ => (pe_op op_catA (pv 4) (pe_tupS (pa_cons (pv 5) pa_nil)))))
      pss_nil))
      (pss_cons (ps_ret (pv 1))
      pss_nil))), ?_⟩
    refine st_set ?_
    refine EV.goA (K := K) (en := (eL (eT D.int))) (x0 := ([([] : (List Int))] : (List (List Int)))) (ev_lst (ds := [(eT D.int) ([] : (List Int))]) (eva_cons (ev_tup (ds := []) eva_nil (Nat.le_of_ble_eq_true rfl)) eva_nil) (Nat.le_of_ble_eq_true rfl)) g.wd fun found e v2 H2 wd s2 h3 => ?_
    have hw := hw found e
    have g2 := g.same s2
    refine st_for ?_
    have h4 : rV K (mxM M0 []) H2 (.im ((eL (eP2 D.str D.int)) columns)) v := (h2.same s2)
    refine EVI.gom (K := K) (en := (eP2 D.str D.int)) (xs := columns) (evi_list (es := List.map (eP2 D.str D.int) columns) (ev_var (d := (.im ((eL (eP2 D.str D.int)) columns))) (i := 0) rfl h4)) g2.wd fun J H3 wd2 s3 wk => ?_
    have g3 := g2.same s3
    obtain ⟨Inv, hI, hI2, hI3⟩ := hw
    have h6 : rV K (mxM M0 []) H3 (.im ((eL (eT D.int)) found)) v2 := (h3.same s3)
    refine st_forit wk (fun i σ' H' => ∃ (v3 : V) (found2 : (List (List Int))) (o : Option V) (o2 : Option V), σ' = [some v, some v3, o, o2, none, none] ∧ Gd M0 [] Y H H' ∧ Lx (mxM M0 []) (mxM M0 []) H3 H' ∧ rV K (mxM M0 []) H' (.im ((eL (eT D.int)) found2)) v3 ∧ Inv i found2) ⟨_, found, _, _, rfl, g3, Lx.refl, h6, hI⟩ (fun i σ' H' _ ⟨_, _, _, _, _, _, hl, _⟩ => ⟨_, hl⟩) ?_ ?_
    · rintro i x2 σ' H4 H5 hi ⟨v3, found2, o, o2, rfl, g4, l, h5, hI4⟩ yd
      obtain ⟨z, hy, s4, hr2⟩ := yd_map yd
      have hw := hI2 i z  found2 hy hI4
      have hr2 := hr2 _ g4.wd l
      have g5 := g4.same s4
      refine g_tup2 (d1 := D.str z.1) (d2 := D.int z.2) hr2 fun v4 v5 h7 h8 => ?_
      cases (show v4 = (V.str z.1) from h7)
      cases (show v5 = (V.int z.2) from h8)
      unfold W_all_values_b1 at hw
      refine st_set ?_
      have h9 : rV K (mxM M0 []) H5 (.im ((eL (eT D.int)) found2)) v3 := (h5.same s4)
      obtain ⟨c, c2, c3, c4, hw⟩ := hw
      refine EV.goA (K := K) (en := (eL (eT D.int))) (x0 := (found2.flatMap fun (values : (List Int)) => (rngI 0 (z.2 + 1)).map fun (value : Int) => (values ++ ([value] : (List Int))))) (ev_lc2m (xs := found2) (en := (eT D.int)) (ys := fun (values : (List Int)) => (rngI 0 (z.2 + 1))) (en1 := D.int) (fd := fun (values : (List Int)) (value : Int) => (values ++ ([value] : (List Int)))) (en2 := (eT D.int)) (evi_list (es := List.map (eT D.int) found2) (ev_var (d := (.im ((eL (eT D.int)) found2))) (i := 1) rfl h9)) GI.ex gm_name gm_name c4 (fun values hy2 M H6 v6 wd3 ex h10 => ⟨rfl, rfl, fun M2 H7 wd4 ex2 l2 => ⟨(evi_range1 (eva_cons (ev_op (ev_vi (i := 3) rfl) ev_int od_add) eva_nil) (c values hy2) (c2 values hy2)), fun value hy3 v7 h11 => ⟨rfl, rfl, (ev_op (ev_var (d := (.im ((eT D.int) values))) (i := 4) rfl (rV.lx l2 (show rV K M H6 (.im ((eT D.int) values)) _ from h10))) (ev_tup (ds := [D.int value]) (eva_cons (ev_var (d := (.im (D.int value))) (i := 5) rfl h11) eva_nil) (Nat.le_of_ble_eq_true rfl)) (od_catTm (en := D.int) (xs := values) (ys := ([value] : (List Int))) (c3 values hy2 value hy3)))⟩⟩⟩)) g5.wd fun found3 e2 v8 H8 wd5 s5 h12 => ?_
      have hw := hw found3 e2
      have g6 := g5.same s5
      exact ⟨_, found3, _, _, rfl, g6, ((l.trans (Lx.same s4)).trans (Lx.same s5)), h12, hw⟩
    · rintro σ' H9 ⟨v3, found2, o, o2, rfl, g7, l3, h5, hI5⟩
      have hw := hI3 found2 hI5
      unfold W_all_values_k1 at hw
      refine st_ret ?_
      refine EV.go (K := K) (d := (.im ((eL (eT D.int)) found2))) (ev_var (d := (.im ((eL (eT D.int)) found2))) (i := 1) rfl h5) g7.wd fun v9 H10 wd6 s6 h13 => ?_
      have g8 := g7.same s6
      exact kk _ _ _ hw g8.w_end (Bu.nil g8.bu eY) (rV.lx Gd.lx_end h13)
abbrev Part := List Int × List Str
def Sch.may (s : Sch) (p r : Str) : Bool := ((!decide (r = p)) && (decide ((getA s.marks r) = "?")))
def upOf (p r : Str) : Option Str := (if (!decide (r = p)) = true then (some (above r)) else none)
def kindStep (s : Sch) (p : Str) (f : List Part) (r : Str) : List Part :=
  ((f.filter fun (z : Part) => (s.may p r || (inO (upOf p r) z.2))).map fun (z : Part) => ((z.1 ++ (repL ([(-1 : Int)] : (List Int)) ((getA s.fields r).length : Int))), (z.2 ++ ([r] : (List Str)))))
  ++ ((f.filter fun (z : Part) => (!inO (upOf p r) z.2)).flatMap fun (z : Part) => (allValues (getA s.fields r)).map fun (values : List Int) => ((z.1 ++ values), z.2))
def Sch.parts (s : Sch) (p : Str) : List Part := (s.group p).foldl (kindStep s p) [([], [])]
def Sch.kinds (s : Sch) (p : Str) : List (List Int) := sortT ((s.parts p).map fun (z : Part) => z.1)
def pre_kinds (s : Sch) (p : Str) : Prop := pre_sgrp s p ∧ (s.group p).length ≤ 4 ∧ (∀ q ∈ s.group p, hasA s.fields q = true ∧ getA s.fields q ≠ [] ∧ (q ≠ p → hasA s.marks q = true ∧ q.length ≤ 1000))
theorem map_pair {α β : Type} (l : List (α × β)) : (l.map fun (z : α × β) => (z.1, z.2)) = l := by simp
theorem kindStep_len {s : Sch} {p r : Str} {f : List Part} (h : (allValues (getA s.fields r)).length ≤ 16) : (kindStep s p f r).length ≤ f.length * 17 := by
  unfold kindStep
  rw [List.length_append, List.length_map, List.length_flatMap]
  simp only [List.length_map]
  rw [List.map_const', List.sum_replicate_nat]
  have h1 := List.length_filter_le (fun (z : Part) => (s.may p r || (inO (upOf p r) z.2))) f
  have h2 := List.length_filter_le (fun (z : Part) => (!inO (upOf p r) z.2)) f
  have h3 := Nat.mul_le_mul h2 h
  omega
theorem kindStep_mem {s : Sch} {p r : Str} {f : List Part} {z : Part} (h : z ∈ kindStep s p f r) : ∃ y ∈ f, z.1.length = y.1.length + (getA s.fields r).length ∧ z.2.length ≤ y.2.length + 1 := by
  unfold kindStep at h
  rcases List.mem_append.mp h with h | h
  · obtain ⟨y, hy, rfl⟩ := List.mem_map.mp h
    refine ⟨y, (List.mem_filter.mp hy).1, ?_, by simp⟩
    rw [List.length_append]
    congr 1
    unfold repL
    simp
  · obtain ⟨y, hy, h⟩ := List.mem_flatMap.mp h
    obtain ⟨v, hv, rfl⟩ := List.mem_map.mp h
    refine ⟨y, (List.mem_filter.mp hy).1, ?_, by simp⟩
    rw [List.length_append, allValues_len v hv]

end
end Toy

set_option Elab.async false
set_option linter.all false
set_option maxRecDepth 100000
set_option maxHeartbeats 4000000
set_option pp.maxSteps 300
set_option pp.deepTerms false
namespace Toy
open PySem L2 Lf
section
variable {P : Program} {w : World} {K : PySem.W.Frag} {mg : Str → Option Value} {base : Heap} {a : Ad}

theorem grp_self : ∀ (zs : List (Str × Str)) (f : List Str) (q : Str), q ∈ f → q ∈ zs.foldl grpStep f
  | [], f, q, h => h
  | z :: zs, f, q, h => by
    rw [List.foldl_cons]
    refine grp_self zs _ q ?_
    unfold grpStep
    split
    · exact List.mem_append_left _ h
    · exact h
structure FldOk (s : Sch) (r : Str) : Prop where
  has : hasA s.fields r = true
  ne : getA s.fields r ≠ []
  ok : pre_allv (getA s.fields r)
theorem fldOk_of {s : Sch} {p r : Str} (w : WfS s) (h : hasA s.fields r = true) (hn : getA s.fields r ≠ []) : FldOk s r := by
  obtain ⟨q, q1, _, q3⟩ := getA_mem h
  have := w.cols q q1
  rw [q3] at this
  exact ⟨h, hn, this⟩
theorem parts_b {s : Sch} {p : Str} : ∀ (rs : List Str) (f : List Part) (N a b c : Nat), (∀ r ∈ rs, FldOk s r) → f.length ≤ N → (∀ z ∈ f, c ≤ z.1.length ∧ z.1.length ≤ a ∧ z.2.length ≤ b) →
    (rs.foldl (kindStep s p) f).length ≤ N * 17 ^ rs.length ∧ ∀ z ∈ rs.foldl (kindStep s p) f, c + rs.length ≤ z.1.length ∧ z.1.length ≤ a + 2 * rs.length ∧ z.2.length ≤ b + rs.length
  | [], f, N, a, b, c, _, h1, h2 => ⟨by simpa using h1, by simpa using h2⟩
  | r :: rs, f, N, a, b, c, h0, h1, h2 => by
    have fo := h0 r (List.mem_cons_self ..)
    have l1 := kindStep_len (p := p) (f := f) (allValues_many fo.ok)
    have hl : 1 ≤ (getA s.fields r).length := List.length_pos_iff.mpr fo.ne
    have hu := fo.ok.1
    obtain ⟨q1, q2⟩ := parts_b rs (kindStep s p f r) (N * 17) (a + 2) (b + 1) (c + 1) (fun q hq => h0 q (List.mem_cons_of_mem _ hq)) (by have := Nat.mul_le_mul_right 17 h1; omega) (fun z hz => by
      obtain ⟨y, hy, e1, e2⟩ := kindStep_mem hz
      have := h2 y hy
      omega)
    rw [List.foldl_cons, List.length_cons, Nat.pow_succ]
    refine ⟨?_, fun z hz => ?_⟩
    · rw [Nat.mul_comm (17 ^ rs.length) 17, ← Nat.mul_assoc]; exact q1
    · have := q2 z hz
      omega
def W_Schema_kinds_b1 (self : Sch) (path : Str) (partial_2 : (List ((List Int) × (List Str)))) (record : Str) (P : (List (List Int)) → Prop) (nx : (List ((List Int) × (List Str))) → Prop) : Prop :=
  (hasA self.fields record = true) ∧ ∀ columns : (List (Str × Int)), columns = (getA self.fields record) → ((!decide (record = path)) = true → hasA self.marks record = true) ∧ ∀ may_miss : Bool, may_miss = ((!decide (record = path)) && (decide ((getA self.marks record) = "?"))) → ((!decide (record = path)) = true → pre_above record) ∧ ∀ upper : (Option Str), upper = (if (!decide (record = path)) = true then (some (above record)) else none) → (partial_2.length ≤ sizeLine) ∧ ∀ lacking : (List ((List Int) × (List Str))), lacking = ((partial_2.filter fun (z : ((List Int) × (List Str))) => (may_miss || (inO upper z.2))).map fun (z : ((List Int) × (List Str))) => (z.1, z.2)) → (partial_2.length ≤ sizeLine) ∧ ∀ having : (List ((List Int) × (List Str))), having = ((partial_2.filter fun (z2 : ((List Int) × (List Str))) => (!inO upper z2.2)).map fun (z2 : ((List Int) × (List Str))) => (z2.1, z2.2)) → (lacking.length ≤ sizeLine) ∧ (∀ z3 ∈ lacking, RepT ([(-1 : Int)] : (List Int)) (columns.length : Int)) ∧ (∀ z3 ∈ lacking, z3.1.length + (repL ([(-1 : Int)] : (List Int)) (columns.length : Int)).length ≤ sizeLine) ∧ (∀ z3 ∈ lacking, z3.2.length + ([record] : (List Str)).length ≤ sizeLine) ∧ ∀ partial_3 : (List ((List Int) × (List Str))), partial_3 = (lacking.map fun (z3 : ((List Int) × (List Str))) => ((z3.1 ++ (repL ([(-1 : Int)] : (List Int)) (columns.length : Int))), (z3.2 ++ ([record] : (List Str))))) → (∀ z4 ∈ having, pre_allv columns) ∧ (∀ z4 ∈ having, ∀ values ∈ (allValues columns), z4.1.length + values.length ≤ sizeLine) ∧ ((having.flatMap fun (z4 : ((List Int) × (List Str))) => (allValues columns).map fun (values : (List Int)) => ((z4.1 ++ values), z4.2)).length ≤ sizeLine) ∧ (partial_3.length + (having.flatMap fun (z4 : ((List Int) × (List Str))) => (allValues columns).map fun (values : (List Int)) => ((z4.1 ++ values), z4.2)).length ≤ sizeLine) ∧ ∀ partial_4 : (List ((List Int) × (List Str))), partial_4 = (partial_3 ++ (having.flatMap fun (z4 : ((List Int) × (List Str))) => (allValues columns).map fun (values : (List Int)) => ((z4.1 ++ values), z4.2))) → nx partial_4
def W_Schema_kinds_k1 (partial_2 : (List ((List Int) × (List Str)))) (P : (List (List Int)) → Prop) : Prop :=
  (partial_2.length ≤ sizeLine) ∧ (∀ z ∈ (partial_2.map fun (z5 : ((List Int) × (List Str))) => z5.1), z ≠ []) ∧ P (sortT (partial_2.map fun (z5 : ((List Int) × (List Str))) => z5.1))
def W_Schema_kinds (self : Sch) (path : Str) (P : (List (List Int)) → Prop) : Prop :=
  ∀ partial_ : (List ((List Int) × (List Str))), partial_ = ([(([] : (List Int)), ([] : (List Str)))] : (List ((List Int) × (List Str)))) → (pre_sgrp self path) ∧ ∃ Inv : Nat → (List ((List Int) × (List Str))) → Prop, Inv 0 partial_ ∧ (∀ (i : Nat) (record : Str) (partial_2 : (List ((List Int) × (List Str)))), (Sch.group self path)[i]? = some record → Inv i partial_2 → W_Schema_kinds_b1 self path partial_2 record P (Inv (i + 1))) ∧ (∀ (partial_2 : (List ((List Int) × (List Str)))), Inv (Sch.group self path).length partial_2 → W_Schema_kinds_k1 partial_2 P)
theorem dW_Schema_kinds {s : Sch} {p : Str} (hp : pre_kinds s p) (P : List (List Int) → Prop) (h : P (s.kinds p)) : W_Schema_kinds s p P := by
  obtain ⟨h1, h2, h3⟩ := hp
  have w := h1.2
  have fo : ∀ q ∈ s.group p, FldOk s q := fun q hq => fldOk_of (p := p) w (h3 q hq).1 (h3 q hq).2.1
  have pb : ∀ i : Nat, (((s.group p).take i).foldl (kindStep s p) [([], [])]).length ≤ 17 ^ ((s.group p).take i).length ∧ ∀ z ∈ ((s.group p).take i).foldl (kindStep s p) [([], [])], ((s.group p).take i).length ≤ z.1.length ∧ z.1.length ≤ 2 * ((s.group p).take i).length ∧ z.2.length ≤ ((s.group p).take i).length := fun i => by
    have := parts_b (s := s) (p := p) ((s.group p).take i) [([], [])] 1 0 0 0 (fun r hr => fo r (List.mem_of_mem_take hr)) (by simp) (by simp)
    simpa using this
  rintro _ rfl
  refine ⟨h1, fun i f => f = ((s.group p).take i).foldl (kindStep s p) [([], [])], rfl, ?_, ?_⟩
  · rintro i r f hi rfl
    have hm := List.mem_of_getElem? hi
    have il : i < (s.group p).length := (List.getElem?_eq_some_iff.mp hi).1
    have fr := fo r hm
    have st : ((s.group p).take (i + 1)).foldl (kindStep s p) [([], [])] = kindStep s p (((s.group p).take i).foldl (kindStep s p) [([], [])]) r := take_fold _ _ _ hi
    obtain ⟨b1, b2⟩ := pb i
    obtain ⟨b3, b4⟩ := pb (i + 1)
    rw [st] at b3
    obtain ⟨f, ef⟩ : ∃ z_, z_ = ((s.group p).take i).foldl (kindStep s p) [([], [])] := ⟨_, rfl⟩
    rw [← ef] at b1 b2 b3 st ⊢
    have tl : ((s.group p).take i).length ≤ 3 := by rw [List.length_take]; omega
    have tl1 : ((s.group p).take (i + 1)).length ≤ 4 := by rw [List.length_take]; omega
    have p1 : 17 ^ ((s.group p).take i).length ≤ 17 ^ 3 := Nat.pow_le_pow_right (by decide) tl
    have p2 : 17 ^ ((s.group p).take (i + 1)).length ≤ 17 ^ 4 := Nat.pow_le_pow_right (by decide) tl1
    have hl := fr.ok.1
    have rl : (repL ([(-1 : Int)] : (List Int)) ((getA s.fields r).length : Int)).length = (getA s.fields r).length := by unfold repL; simp
    refine ⟨fr.has, ?_⟩
    rintro _ rfl
    refine ⟨fun e => ((h3 r hm).2.2 (by simpa using e)).1, ?_⟩
    rintro _ rfl
    refine ⟨fun e => sz_of (by have := ((h3 r hm).2.2 (by simpa using e)).2; omega), ?_⟩
    rintro _ rfl
    have fl : f.length ≤ sizeLine := sz_of (by omega)
    refine ⟨fl, ?_⟩
    rintro lacking hlk
    rw [map_pair] at hlk
    refine ⟨fl, ?_⟩
    rintro having hhv
    rw [map_pair] at hhv
    have lf : ∀ z ∈ lacking, z ∈ f := fun z hz => by rw [hlk] at hz; exact (List.mem_filter.mp hz).1
    have hf : ∀ z ∈ having, z ∈ f := fun z hz => by rw [hhv] at hz; exact (List.mem_filter.mp hz).1
    have ll : lacking.length ≤ f.length := by rw [hlk]; exact List.length_filter_le _ _
    have ek : kindStep s p f r = (lacking.map fun (z : Part) => ((z.1 ++ (repL ([(-1 : Int)] : (List Int)) ((getA s.fields r).length : Int))), (z.2 ++ ([r] : (List Str))))) ++ (having.flatMap fun (z : Part) => (allValues (getA s.fields r)).map fun (values : List Int) => ((z.1 ++ values), z.2)) := by
      rw [hlk, hhv]
      rfl
    have e3 : (kindStep s p f r).length ≤ 100000 := by omega
    rw [ek, List.length_append] at e3
    refine ⟨sz_of (by omega), fun z hz => ⟨by omega, by omega, by simp⟩, fun z hz => sz_of ?_, fun z hz => sz_of ?_, ?_⟩
    · have := b2 z (lf z hz)
      rw [rl]
      omega
    · have := b2 z (lf z hz)
      simp only [List.length_singleton]
      omega
    · rintro f3 rfl
      refine ⟨fun _ _ => fr.ok, fun z hz v hv => sz_of ?_, sz_of (Nat.le_trans (Nat.le_add_left _ _) e3), sz_of e3, ?_⟩
      · have := b2 z (hf z hz)
        rw [allValues_len v hv]
        omega
      · rintro f4 rfl
        exact (st.trans ek).symm
  · rintro f rfl
    rw [List.take_length]
    obtain ⟨b1, b2⟩ := pb (s.group p).length
    rw [List.take_length] at b1 b2
    have p2 : 17 ^ (s.group p).length ≤ 17 ^ 4 := Nat.pow_le_pow_right (by decide) h2
    refine ⟨sz_of (by omega), fun z hz => ?_, h⟩
    obtain ⟨y, hy, rfl⟩ := List.mem_map.mp hz
    have := (b2 y hy).1
    have g0 : 1 ≤ (s.group p).length := by
      have : p ∈ s.group p := grp_self _ _ _ (List.mem_singleton.mpr rfl)
      exact List.length_pos_of_mem this
    intro e
    have t2 : y.1.length = 0 := by rw [show y.1 = [] from e]; rfl
    omega
def sp_Schema_kinds (K : PySem.W.Frag) (a : Ad) : Sp := spF K (fun (x : Sch × Str) => [(eSch a.C_Schema) x.1, D.str x.2]) (eL (eT D.int)) (fun (x : Sch × Str) => pre_kinds x.1 x.2) (fun (x : Sch × Str) => Sch.kinds x.1 x.2)
theorem cd_Schema_kinds {E : XK} (self : Sch) (path : Str) (hp : pre_kinds self path) : CaD K (fun vs H Q => sp_Schema_kinds K a vs H Q E) [.im ((eSch a.C_Schema) self), .im (D.str path)] (.im ((eL (eT D.int)) (Sch.kinds self path))) := cd_fn (ens := (fun (x : Sch × Str) => [(eSch a.C_Schema) x.1, D.str x.2])) (er := (eL (eT D.int))) (self, path) hp
theorem sc_Schema_kinds : FnScope ["self", "path", "partial", "record", "columns", "may_miss", "upper", "lacking", "kind", "gone", "having", "values"] ["self", "path"] (defScope s_Schema_kinds) := ⟨rfl, rfl, rfl, by decide +kernel, rfl, by decide +kernel, by decide +kernel⟩
theorem ok_Schema_kinds (T : Txt K mg a) : FnOk P w K mg base CX0 4 a.f_Schema_kinds a.d_Schema_kinds ["self", "path"] (sp_Schema_kinds K a) := by
  refine T.F_Schema_kinds.ok sc_Schema_kinds (fun vs H Q E h => ?_) (fun cdv A outer s H vs Q E hr h => ?_)
  · obtain ⟨M0, x, w0, hx, _⟩ := h
    exact hx.len
  · obtain ⟨M0, x, w0, hx, hp, kq⟩ := h
    obtain ⟨self, path⟩ := x
    have hx : rDs K (Fx M0 H) [(eSch a.C_Schema) self, D.str path] vs := hx
    obtain ⟨v2, _, rfl, h3, v, _, rfl, h2, rfl⟩ := hx
    obtain ⟨Y, eY⟩ : ∃ Y : List Addr, Y = [] := ⟨_, rfl⟩
    have g : Gd M0 [] Y H H := Gd.start w0 (by rw [eY]; exact fun y h => nomatch h)
    have h3 : rV K (mxM M0 []) H (.im ((eSch a.C_Schema) self)) v2 := rV.lx Gd.lx0 (show rV K M0 H (.im ((eSch a.C_Schema) self)) v2 from h3)
    cases (show v = (V.str path) from h2)
    obtain ⟨P, eP⟩ : ∃ P : (List (List Int)) → Prop, P = fun r => r = Sch.kinds self path := ⟨_, rfl⟩
    have kk : ∀ r v H2, P r → Wd M0 H2 → Same H H2 → rD K (Fx M0 H2) ((eL (eT D.int)) r) v → Q v H2 := fun r v H2 e => by rw [eP] at e; rw [show r = Sch.kinds self path from e]; exact kq v H2
    have hw : W_Schema_kinds self path P := dW_Schema_kinds hp P (by rw [eP])
    unfold W_Schema_kinds at hw
    have hu := hu_of hr
    refine ⟨_, (pss_cons (ps_set (i := 2) sc_Schema_kinds.nd rfl (.inl rfl) (pe_lstS (pa_cons (pe_tupS (pa_cons (pe_tupS pa_nil) (pa_cons (pe_tupS pa_nil) pa_nil))) pa_nil)))
      (pss_cons (ps_for PassesOwn.never rfl (pi_list (pe_meth (pv 0) T.c_Schema T.t_Schema_group (ok_Schema_group T) (hr.mono (by decide)) T.a_Schema_group .nil pass0 (pa_cons (pv 1) pa_nil))) (pg_name (i := 3) sc_Schema_kinds.nd rfl (.inr rfl))
      (pss_cons (ps_set (i := 4) sc_Schema_kinds.nd rfl (.inr rfl) (pe_dget hu (pe_fld (pv 0) rfl) (pv 3) (fun _ _ => rfl)))
      (pss_cons (ps_set (i := 5) sc_Schema_kinds.nd rfl (.inr rfl) (pe_and (pe_cmpR op_ne (pv 3) (pv 1) (nomark _)) (pe_one (pe_cmpR op_eq (pe_dget hu (pe_fld (pv 0) rfl) (pv 3) (fun _ _ => rfl)) pe_str (nomark _)))))
      (pss_cons (ps_set (i := 6) sc_Schema_kinds.nd rfl (.inr rfl) (pe_ifExp (pt_cmpR op_ne (pv 3) (pv 1) (nomark _)) (pe_call (ok_path_above T) (hr.mono (by decide)) rfl T.m_path_above T.k_path_above T.a_path_above .nil pass0 (pa_cons (pv 3) pa_nil)) pe_non))
      (pss_cons (ps_setLc (i := 7) (own := [("kind", 8), ("gone", 9)]) (g := gTup K 2 (gCons (gName 8) (gCons (gName 9) gNil))) (tt := (tOr (tB (tVar 5)) (tTest (tOp (rIn K false) (tVar 6) (tVar 9))))) (te := (tTupS (tCons (tVar 8) (tCons (tVar 9) tNil)))) rfl sc_Schema_kinds.nd rfl rfl (sw_true rfl rfl rfl (by decide +kernel)) (pi_list (pv 2)) (blkOk_by (own := [("kind", 8), ("gone", 9)]) (N := ["self", "path", "partial", "record", "columns", "may_miss", "upper", "lacking", "kind", "gone", "having", "values"]) (sc := defScope s_Schema_kinds) (by decide +kernel)) (fun _ _ _ _ _ => (pg_tup rfl (pgs_cons (pg_name (i := 8) sc_Schema_kinds.nd rfl (.inl rfl)) (pgs_cons (pg_name (i := 9) sc_Schema_kinds.nd rfl (.inl rfl)) pgs_nil)))) (fun _ _ _ _ _ => (pts_one (PW.pt (pw_or (pt_val (pv 5)) (pw_or1 (pt_cmpR op_in_seq (pv 6) (pv 9) rfl)))))) (fun _ _ _ _ _ => (pe_tupS (pa_cons (pv 8) (pa_cons (pv 9) pa_nil)))))
      (pss_cons (ps_setLc (i := 10) (own := [("kind", 8), ("gone", 9)]) (g := gTup K 2 (gCons (gName 8) (gCons (gName 9) gNil))) (tt := (tTest (tOp (rIn K true) (tVar 6) (tVar 9)))) (te := (tTupS (tCons (tVar 8) (tCons (tVar 9) tNil)))) rfl sc_Schema_kinds.nd rfl rfl (sw_true rfl rfl rfl (by decide +kernel)) (pi_list (pv 2)) (blkOk_by (own := [("kind", 8), ("gone", 9)]) (N := ["self", "path", "partial", "record", "columns", "may_miss", "upper", "lacking", "kind", "gone", "having", "values"]) (sc := defScope s_Schema_kinds) (by decide +kernel)) (fun _ _ _ _ _ => (pg_tup rfl (pgs_cons (pg_name (i := 8) sc_Schema_kinds.nd rfl (.inl rfl)) (pgs_cons (pg_name (i := 9) sc_Schema_kinds.nd rfl (.inl rfl)) pgs_nil)))) (fun _ _ _ _ _ => (pts_one (pt_cmpR op_notIn_seq (pv 6) (pv 9) rfl))) (fun _ _ _ _ _ => (pe_tupS (pa_cons (pv 8) (pa_cons (pv 9) pa_nil)))))
      (pss_cons (ps_setLc (i := 2) (own := [("kind", 8), ("gone", 9)]) (g := gTup K 2 (gCons (gName 8) (gCons (gName 9) gNil))) (tt := tYes) (te := (tTupS (tCons (tOp (rCatA K) (tVar 8) (tOp (rRepA K) (tTupS (tCons (tUn rNegI (tC (.int 1))) tNil)) (tCB (rLenSq K) (tCons (tVar 4) tNil)))) (tCons (tOp (rCatA K) (tVar 9) (tTupS (tCons (tVar 3) tNil))) tNil)))) rfl sc_Schema_kinds.nd rfl rfl (sw_true rfl rfl rfl (by decide +kernel)) (pi_list (pv 7)) (blkOk_by (own := [("kind", 8), ("gone", 9)]) (N := ["self", "path", "partial", "record", "columns", "may_miss", "upper", "lacking", "kind", "gone", "having", "values"]) (sc := defScope s_Schema_kinds) (by decide +kernel)) (fun _ _ _ _ _ => (pg_tup rfl (pgs_cons (pg_name (i := 8) sc_Schema_kinds.nd rfl (.inl rfl)) (pgs_cons (pg_name (i := 9) sc_Schema_kinds.nd rfl (.inl rfl)) pgs_nil)))) (fun _ _ _ _ _ => pts_nil) (fun _ _ _ _ _ => (pe_tupS (pa_cons (pe_op op_catA (pv 8) (pe_op op_repA (pe_tupS (pa_cons (pe_un un_neg pe_int) pa_nil)) (pe_callB call_len_seq (by rfl) T.b_len PySem.boot_len (pa_cons (pv 4) pa_nil)))) (pa_cons (pe_op op_catA (pv 9) (pe_tupS (pa_cons (pv 3) pa_nil))) pa_nil)))))
      (pss_cons (ps_set (i := 2) sc_Schema_kinds.nd rfl (.inl rfl) (pe_op op_catS (pv 2) (pe_lc2 (own := [("kind", 8), ("gone", 9), ("values", 11)]) (vs1 := [11]) (g := gTup K 2 (gCons (gName 8) (gCons (gName 9) gNil))) (tt := tYes) (wi1 := (iList K (tCall (sp_all_values K) [] E0 (tCons (tVar 4) tNil)))) (g1 := gName 11) (tt1 := tYes) (te := (tTupS (tCons (tOp (rCatA K) (tVar 8) (tVar 11)) (tCons (tVar 9) tNil)))) rfl sc_Schema_kinds.nd (pi_list (pv 10)) (blkOk_by (own := [("kind", 8), ("gone", 9), ("values", 11)]) (N := ["self", "path", "partial", "record", "columns", "may_miss", "upper", "lacking", "kind", "gone", "having", "values"]) (sc := defScope s_Schema_kinds) (by decide +kernel)) (by decide) (fun _ _ _ _ _ => (pg_tup rfl (pgs_cons (pg_name (i := 8) sc_Schema_kinds.nd rfl (.inl rfl)) (pgs_cons (pg_name (i := 9) sc_Schema_kinds.nd rfl (.inl rfl)) pgs_nil)))) (fun _ _ _ _ _ => pts_nil) (fun _ _ _ _ _ => (pi_list (pe_call (ok_all_values T) (hr.mono (by decide)) rfl T.m_all_values T.k_all_values T.a_all_values .nil pass0 (pa_cons (pv 4) pa_nil)))) (fun _ _ _ _ _ => (pg_name (i := 11) sc_Schema_kinds.nd rfl (.inl rfl))) (fun _ _ _ _ _ => pts_nil) (fun _ _ _ _ _ => (pe_tupS (pa_cons (pe_op op_catA (pv 8) (pv 11)) (pa_cons (pv 9) pa_nil)))))))
      pss_nil))))))))
      (pss_cons (ps_ret (pe_callB cr_sortedTI (by rfl) T.b_sorted (by decide +kernel) (pa_cons (pe_lc (own := [("kind", 8), ("gone", 9)]) (g := gTup K 2 (gCons (gName 8) (gCons (gName 9) gNil))) (tt := tYes) (te := (tVar 8)) rfl sc_Schema_kinds.nd (pi_list (pv 2)) (blkOk_by (own := [("kind", 8), ("gone", 9)]) (N := ["self", "path", "partial", "record", "columns", "may_miss", "upper", "lacking", "kind", "gone", "having", "values"]) (sc := defScope s_Schema_kinds) (by decide +kernel)) (fun _ _ _ _ _ => (pg_tup rfl (pgs_cons (pg_name (i := 8) sc_Schema_kinds.nd rfl (.inl rfl)) (pgs_cons (pg_name (i := 9) sc_Schema_kinds.nd rfl (.inl rfl)) pgs_nil)))) (fun _ _ _ _ _ => pts_nil) (fun _ _ _ _ _ => (pv 8))) pa_nil)))
      pss_nil))), ?_⟩
    refine st_set ?_
    refine EV.goA (K := K) (en := (eL (eP2 (eT D.int) (eT D.str)))) (x0 := ([(([] : (List Int)), ([] : (List Str)))] : (List ((List Int) × (List Str))))) (ev_lst (ds := [(eP2 (eT D.int) (eT D.str)) (([] : (List Int)), ([] : (List Str)))]) (eva_cons (ev_tup (ds := [(eT D.int) ([] : (List Int)), (eT D.str) ([] : (List Str))]) (eva_cons (ev_tup (ds := []) eva_nil (Nat.le_of_ble_eq_true rfl)) (eva_cons (ev_tup (ds := []) eva_nil (Nat.le_of_ble_eq_true rfl)) eva_nil)) (Nat.le_of_ble_eq_true rfl)) eva_nil) (Nat.le_of_ble_eq_true rfl)) g.wd fun partial_ e v3 H2 wd s2 h4 => ?_
    have hw := hw partial_ e
    have g2 := g.same s2
    try dsimp only [gName]
    refine st_norm (σ' := [some v2, some (V.str path), some v3, none, none, none, none, none, none, none, none, none]) rfl ?_
    refine st_for ?_
    have h5 : rV K (mxM M0 []) H2 (.im ((eSch a.C_Schema) self)) v2 := (h3.same s2)
    obtain ⟨c2, hw⟩ := hw
    refine EVI.gom (K := K) (en := D.str) (xs := (Sch.group self path)) (evi_list (es := List.map D.str (Sch.group self path)) (ev_meth (ev_var (d := (.im ((eSch a.C_Schema) self))) (i := 0) rfl h5) (by decide) (eva_cons (ev_vs (i := 1) rfl) eva_nil) (cd_Schema_group self path c2))) g2.wd fun J H3 wd2 s3 wk => ?_
    have g3 := g2.same s3
    obtain ⟨Inv, hI, hI2, hI3⟩ := hw
    have h7 : rV K (mxM M0 []) H3 (.im ((eL (eP2 (eT D.int) (eT D.str))) partial_)) v3 := (h4.same s3)
    refine st_forit wk (fun i σ' H' => ∃ (v4 : V) (partial_2 : (List ((List Int) × (List Str)))) (o : Option V) (o2 : Option V) (o3 : Option V) (o4 : Option V) (o5 : Option V) (o6 : Option V), σ' = [some v2, some (V.str path), some v4, o, o2, o3, o4, o5, none, none, o6, none] ∧ Gd M0 [] Y H H' ∧ Lx (mxM M0 []) (mxM M0 []) H3 H' ∧ rV K (mxM M0 []) H' (.im ((eL (eP2 (eT D.int) (eT D.str))) partial_2)) v4 ∧ Inv i partial_2) ⟨_, partial_, _, _, _, _, _, _, rfl, g3, Lx.refl, h7, hI⟩ (fun i σ' H' _ ⟨_, _, _, _, _, _, _, _, _, _, hl, _⟩ => ⟨_, hl⟩) ?_ ?_
    · rintro i x2 σ' H4 H5 hi ⟨v4, partial_2, o, o2, o3, o4, o5, o6, rfl, g4, l, h6, hI4⟩ yd
      obtain ⟨record, hy, s4, hr2⟩ := yd_map yd
      have hw := hI2 i record  partial_2 hy hI4
      have hr2 := hr2 _ g4.wd l
      have g5 := g4.same s4
      cases (show x2 = (V.str record) from hr2)
      unfold W_Schema_kinds_b1 at hw
      try dsimp only [gName]
      refine st_norm (σ' := [some v2, some (V.str path), some v4, some (V.str record), o2, o3, o4, o5, none, none, o6, none]) rfl ?_
      refine st_set ?_
      have h8 : rV K (mxM M0 []) H5 (.im ((eSch a.C_Schema) self)) v2 := ((rV.lx l (h5.same s3)).same s4)
      obtain ⟨c3, hw⟩ := hw
      refine EV.goA (K := K) (en := (eL (eP2 D.str D.int))) (x0 := (getA self.fields record)) (ev_kget (en := (eL (eP2 D.str D.int))) (kvs := self.fields) (k := record) (ev_fld 2 (ev_var (d := (.im ((eSch a.C_Schema) self))) (i := 0) rfl h8) T.c_Schema T.n_Schema_fields (by decide) rfl rfl) (ev_vs (i := 3) rfl) c3) g5.wd fun columns e2 v5 H6 wd3 s5 h9 => ?_
      have hw := hw columns e2
      have g6 := g5.same s5
      try dsimp only [gName]
      refine st_norm (σ' := [some v2, some (V.str path), some v4, some (V.str record), some v5, o3, o4, o5, none, none, o6, none]) rfl ?_
      refine st_set ?_
      have h10 : rV K (mxM M0 []) H6 (.im ((eSch a.C_Schema) self)) v2 := (h8.same s5)
      obtain ⟨c5, hw⟩ := hw
      refine EV.goA (K := K) (en := D.bl) (x0 := ((!decide (record = path)) && (decide ((getA self.marks record) = "?")))) (ev_and (ev_op (ev_vs (i := 3) rfl) (ev_vs (i := 1) rfl) od_neS) fun hb => (ev_op (ev_kget (en := D.str) (kvs := self.marks) (k := record) (ev_fld 1 (ev_var (d := (.im ((eSch a.C_Schema) self))) (i := 0) rfl h10) T.c_Schema T.n_Schema_marks (by decide) rfl rfl) (ev_vs (i := 3) rfl) (c5 hb)) ev_str od_eqS)) g6.wd fun may_miss e3 v6 H7 wd4 s6 h11 => ?_
      have hw := hw may_miss e3
      have g7 := g6.same s6
      cases (show v6 = (V.bl may_miss) from h11)
      try dsimp only [gName]
      refine st_norm (σ' := [some v2, some (V.str path), some v4, some (V.str record), some v5, some (V.bl may_miss), o4, o5, none, none, o6, none]) rfl ?_
      refine st_set ?_
      obtain ⟨c6, hw⟩ := hw
      refine EV.goA (K := K) (en := (eO D.str)) (x0 := (if (!decide (record = path)) = true then (some (above record)) else none)) (ev_if (en := fun z => .im ((eO D.str) z)) (x := (some (above record))) (y := none) (evt_test (K := K) (ev_op (ev_vs (i := 3) rfl) (ev_vs (i := 1) rfl) od_neS)) (fun hb2 => (ev_call (eva_cons (ev_vs (i := 3) rfl) eva_nil) (cd_path_above record (c6 hb2)))) fun hb3 => ev_non) g7.wd fun upper e4 v7 H8 wd5 s7 h12 => ?_
      have hw := hw upper e4
      have g8 := g7.same s7
      try dsimp only [gName]
      refine st_norm (σ' := [some v2, some (V.str path), some v4, some (V.str record), some v5, some (V.bl may_miss), some v7, o5, none, none, o6, none]) rfl ?_
      refine st_set ?_
      have h13 : rV K (mxM M0 []) H8 (.im ((eL (eP2 (eT D.int) (eT D.str))) partial_2)) v4 := ((((h6.same s4).same s5).same s6).same s7)
      obtain ⟨c7, hw⟩ := hw
      refine EV.goA (K := K) (en := (eL (eP2 (eT D.int) (eT D.str)))) (x0 := ((partial_2.filter fun (z : ((List Int) × (List Str))) => (may_miss || (inO upper z.2))).map fun (z : ((List Int) × (List Str))) => (z.1, z.2))) (ev_lcfm (fd := fun (z : ((List Int) × (List Str))) => (z.1, z.2)) (en2 := (eP2 (eT D.int) (eT D.str))) (xs := partial_2) (en := (eP2 (eT D.int) (eT D.str))) (p := fun (z : ((List Int) × (List Str))) => (may_miss || (inO upper z.2))) (evi_list (es := List.map (eP2 (eT D.int) (eT D.str)) partial_2) (ev_var (d := (.im ((eL (eP2 (eT D.int) (eT D.str))) partial_2))) (i := 2) rfl h13)) GI.ex gm_tup2 c7 (fun z hy2 M H9 v10 wd6 ex h16 => g_tup2 (d1 := (eT D.int) z.1) (d2 := (eT D.str) z.2) h16 fun v8 v9 h14 h15 => ⟨rfl, rfl, (evt_or (evt_b (K := K) (ev_vb (i := 5) rfl)) fun hb4 => (evt_test (K := K) (ev_op (ev_var (d := (.im ((eO D.str) upper))) (i := 6) rfl (rV.ex (d := (.im ((eO D.str) upper))) ex h12)) (ev_var (d := (.im ((eT D.str) z.2))) (i := 9) rfl h15) (od_inO (xs := z.2) false (.inr rfl))))), fun hb5 => (ev_tup (ds := [(eT D.int) z.1, (eT D.str) z.2]) (eva_cons (ev_var (d := (.im ((eT D.int) z.1))) (i := 8) rfl h14) (eva_cons (ev_var (d := (.im ((eT D.str) z.2))) (i := 9) rfl h15) eva_nil)) (Nat.le_of_ble_eq_true rfl))⟩)) g8.wd fun lacking e5 v11 H10 wd7 s8 h17 => ?_
      have hw := hw lacking e5
      have g9 := g8.same s8
      try dsimp only [gName]
      refine st_norm (σ' := [some v2, some (V.str path), some v4, some (V.str record), some v5, some (V.bl may_miss), some v7, some v11, none, none, o6, none]) rfl ?_
      refine st_set ?_
      have h18 : rV K (mxM M0 []) H10 (.im ((eL (eP2 (eT D.int) (eT D.str))) partial_2)) v4 := (h13.same s8)
      have h22 : rV K (mxM M0 []) H10 (.im ((eO D.str) upper)) v7 := (h12.same s8)
      obtain ⟨c8, hw⟩ := hw
      refine EV.goA (K := K) (en := (eL (eP2 (eT D.int) (eT D.str)))) (x0 := ((partial_2.filter fun (z2 : ((List Int) × (List Str))) => (!inO upper z2.2)).map fun (z2 : ((List Int) × (List Str))) => (z2.1, z2.2))) (ev_lcfm (fd := fun (z2 : ((List Int) × (List Str))) => (z2.1, z2.2)) (en2 := (eP2 (eT D.int) (eT D.str))) (xs := partial_2) (en := (eP2 (eT D.int) (eT D.str))) (p := fun (z2 : ((List Int) × (List Str))) => (!inO upper z2.2)) (evi_list (es := List.map (eP2 (eT D.int) (eT D.str)) partial_2) (ev_var (d := (.im ((eL (eP2 (eT D.int) (eT D.str))) partial_2))) (i := 2) rfl h18)) GI.ex gm_tup2 c8 (fun z2 hy3 M2 H11 v14 wd8 ex2 h21 => g_tup2 (d1 := (eT D.int) z2.1) (d2 := (eT D.str) z2.2) h21 fun v12 v13 h19 h20 => ⟨rfl, rfl, (evt_test (K := K) (ev_op (ev_var (d := (.im ((eO D.str) upper))) (i := 6) rfl (rV.ex (d := (.im ((eO D.str) upper))) ex2 h22)) (ev_var (d := (.im ((eT D.str) z2.2))) (i := 9) rfl h20) (od_inO (xs := z2.2) true (.inr rfl)))), fun hb6 => (ev_tup (ds := [(eT D.int) z2.1, (eT D.str) z2.2]) (eva_cons (ev_var (d := (.im ((eT D.int) z2.1))) (i := 8) rfl h19) (eva_cons (ev_var (d := (.im ((eT D.str) z2.2))) (i := 9) rfl h20) eva_nil)) (Nat.le_of_ble_eq_true rfl))⟩)) g9.wd fun having e6 v15 H12 wd9 s9 h23 => ?_
      have hw := hw having e6
      have g10 := g9.same s9
      try dsimp only [gName]
      refine st_norm (σ' := [some v2, some (V.str path), some v4, some (V.str record), some v5, some (V.bl may_miss), some v7, some v11, none, none, some v15, none]) rfl ?_
      refine st_set ?_
      have h24 : rV K (mxM M0 []) H12 (.im ((eL (eP2 (eT D.int) (eT D.str))) lacking)) v11 := (h17.same s9)
      have h28 : rV K (mxM M0 []) H12 (.im ((eL (eP2 D.str D.int)) columns)) v5 := ((((h9.same s6).same s7).same s8).same s9)
      obtain ⟨c9, c10, c11, c12, hw⟩ := hw
      refine EV.goA (K := K) (en := (eL (eP2 (eT D.int) (eT D.str)))) (x0 := (lacking.map fun (z3 : ((List Int) × (List Str))) => ((z3.1 ++ (repL ([(-1 : Int)] : (List Int)) (columns.length : Int))), (z3.2 ++ ([record] : (List Str)))))) (ev_lcmm (fd := fun (z3 : ((List Int) × (List Str))) => ((z3.1 ++ (repL ([(-1 : Int)] : (List Int)) (columns.length : Int))), (z3.2 ++ ([record] : (List Str))))) (en2 := (eP2 (eT D.int) (eT D.str))) (xs := lacking) (en := (eP2 (eT D.int) (eT D.str))) (evi_list (es := List.map (eP2 (eT D.int) (eT D.str)) lacking) (ev_var (d := (.im ((eL (eP2 (eT D.int) (eT D.str))) lacking))) (i := 7) rfl h24)) GI.ex gm_tup2 c9 (fun z3 hy4 M3 H13 v18 wd10 ex3 h27 => g_tup2 (d1 := (eT D.int) z3.1) (d2 := (eT D.str) z3.2) h27 fun v16 v17 h25 h26 => ⟨rfl, rfl, (ev_tup (ds := [(eT D.int) (z3.1 ++ (repL ([(-1 : Int)] : (List Int)) (columns.length : Int))), (eT D.str) (z3.2 ++ ([record] : (List Str)))]) (eva_cons (ev_op (ev_var (d := (.im ((eT D.int) z3.1))) (i := 8) rfl h25) (ev_op (ev_tup (ds := [D.int (-1 : Int)]) (eva_cons (ev_un ev_int ud_neg) eva_nil) (Nat.le_of_ble_eq_true rfl)) (ev_cb (eva_cons (ev_var (d := (.im ((eL (eP2 D.str D.int)) columns))) (i := 4) rfl (rV.ex (d := (.im ((eL (eP2 D.str D.int)) columns))) ex3 h28)) eva_nil) (cd_lenm (en := (eP2 D.str D.int)) (xs := columns) (.inl LsOf.im))) (od_repTm (en := D.int) (xs := ([(-1 : Int)] : (List Int))) (c10 z3 hy4))) (od_catTm (en := D.int) (xs := z3.1) (ys := (repL ([(-1 : Int)] : (List Int)) (columns.length : Int))) (c11 z3 hy4))) (eva_cons (ev_op (ev_var (d := (.im ((eT D.str) z3.2))) (i := 9) rfl h26) (ev_tup (ds := [D.str record]) (eva_cons (ev_vs (i := 3) rfl) eva_nil) (Nat.le_of_ble_eq_true rfl)) (od_catTm (en := D.str) (xs := z3.2) (ys := ([record] : (List Str))) (c12 z3 hy4))) eva_nil)) (Nat.le_of_ble_eq_true rfl))⟩)) g10.wd fun partial_3 e7 v19 H14 wd11 s10 h29 => ?_
      have hw := hw partial_3 e7
      have g11 := g10.same s10
      try dsimp only [gName]
      refine st_norm (σ' := [some v2, some (V.str path), some v19, some (V.str record), some v5, some (V.bl may_miss), some v7, some v11, none, none, some v15, none]) rfl ?_
      refine st_set ?_
      have h30 : rV K (mxM M0 []) H14 (.im ((eL (eP2 (eT D.int) (eT D.str))) having)) v15 := (h23.same s10)
      have h34 : rV K (mxM M0 []) H14 (.im ((eL (eP2 D.str D.int)) columns)) v5 := (h28.same s10)
      obtain ⟨c14, c15, c16, c17, hw⟩ := hw
      refine EV.goA (K := K) (en := (eL (eP2 (eT D.int) (eT D.str)))) (x0 := (partial_3 ++ (having.flatMap fun (z4 : ((List Int) × (List Str))) => (allValues columns).map fun (values : (List Int)) => ((z4.1 ++ values), z4.2)))) (ev_op (ev_var (d := (.im ((eL (eP2 (eT D.int) (eT D.str))) partial_3))) (i := 2) rfl h29) (ev_lc2m (xs := having) (en := (eP2 (eT D.int) (eT D.str))) (ys := fun (z4 : ((List Int) × (List Str))) => (allValues columns)) (en1 := (eT D.int)) (fd := fun (z4 : ((List Int) × (List Str))) (values : (List Int)) => ((z4.1 ++ values), z4.2)) (en2 := (eP2 (eT D.int) (eT D.str))) (evi_list (es := List.map (eP2 (eT D.int) (eT D.str)) having) (ev_var (d := (.im ((eL (eP2 (eT D.int) (eT D.str))) having))) (i := 10) rfl h30)) GI.ex gm_tup2 gm_name c16 (fun z4 hy5 M4 H15 v22 wd12 ex4 h33 => g_tup2 (d1 := (eT D.int) z4.1) (d2 := (eT D.str) z4.2) h33 fun v20 v21 h31 h32 => ⟨rfl, rfl, fun M5 H16 wd13 ex5 l2 => ⟨(evi_list (es := List.map (eT D.int) (allValues columns)) (ev_call (eva_cons (ev_var (d := (.im ((eL (eP2 D.str D.int)) columns))) (i := 4) rfl (rV.ex (d := (.im ((eL (eP2 D.str D.int)) columns))) ex5 h34)) eva_nil) (cd_all_values columns (c14 z4 hy5)))), fun values hy6 v23 h35 => ⟨rfl, rfl, (ev_tup (ds := [(eT D.int) (z4.1 ++ values), (eT D.str) z4.2]) (eva_cons (ev_op (ev_var (d := (.im ((eT D.int) z4.1))) (i := 8) rfl (rV.lx l2 (show rV K M4 H15 (.im ((eT D.int) z4.1)) _ from h31))) (ev_var (d := (.im ((eT D.int) values))) (i := 11) rfl h35) (od_catTm (en := D.int) (xs := z4.1) (ys := values) (c15 z4 hy5 values hy6))) (eva_cons (ev_var (d := (.im ((eT D.str) z4.2))) (i := 9) rfl (rV.lx l2 (show rV K M4 H15 (.im ((eT D.str) z4.2)) _ from h32))) eva_nil)) (Nat.le_of_ble_eq_true rfl))⟩⟩⟩)) (od_catm (en := (eP2 (eT D.int) (eT D.str))) (xs := partial_3) (ys := (having.flatMap fun (z4 : ((List Int) × (List Str))) => (allValues columns).map fun (values : (List Int)) => ((z4.1 ++ values), z4.2))) LsOf.im LsOf.im c17)) g11.wd fun partial_4 e8 v24 H17 wd14 s11 h36 => ?_
      have hw := hw partial_4 e8
      have g12 := g11.same s11
      exact ⟨_, partial_4, _, _, _, _, _, _, rfl, g12, ((((((((l.trans (Lx.same s4)).trans (Lx.same s5)).trans (Lx.same s6)).trans (Lx.same s7)).trans (Lx.same s8)).trans (Lx.same s9)).trans (Lx.same s10)).trans (Lx.same s11)), h36, hw⟩
    · rintro σ' H18 ⟨v4, partial_2, o, o2, o3, o4, o5, o6, rfl, g13, l3, h6, hI5⟩
      have hw := hI3 partial_2 hI5
      unfold W_Schema_kinds_k1 at hw
      try dsimp only [gName]
      refine st_norm (σ' := [some v2, some (V.str path), some v4, o, o2, o3, o4, o5, none, none, o6, none]) rfl ?_
      refine st_ret ?_
      obtain ⟨c18, c19, hw⟩ := hw
      refine EV.go (K := K) (d := (.im ((eL (eT D.int)) (sortT (partial_2.map fun (z5 : ((List Int) × (List Str))) => z5.1))))) (ev_cb (eva_cons (ev_lcmm (fd := fun (z5 : ((List Int) × (List Str))) => z5.1) (en2 := (eT D.int)) (xs := partial_2) (en := (eP2 (eT D.int) (eT D.str))) (evi_list (es := List.map (eP2 (eT D.int) (eT D.str)) partial_2) (ev_var (d := (.im ((eL (eP2 (eT D.int) (eT D.str))) partial_2))) (i := 2) rfl h6)) GI.ex gm_tup2 c18 (fun z5 hy7 M6 H19 v27 wd15 ex6 h39 => g_tup2 (d1 := (eT D.int) z5.1) (d2 := (eT D.str) z5.2) h39 fun v25 v26 h37 h38 => ⟨rfl, rfl, (ev_var (d := (.im ((eT D.int) z5.1))) (i := 8) rfl h37)⟩)) eva_nil) (cd_sortTI (nss := (partial_2.map fun (z5 : ((List Int) × (List Str))) => z5.1)) LsOf.im c19)) g13.wd fun v28 H20 wd16 s12 h40 => ?_
      have g14 := g13.same s12
      exact kk _ _ _ hw g14.w_end (Bu.nil g14.bu eY) (rV.lx Gd.lx_end h40)

end
end Toy

set_option Elab.async false
set_option linter.all false
set_option maxRecDepth 100000
set_option maxHeartbeats 4000000
set_option pp.maxSteps 300
set_option pp.deepTerms false
namespace Toy
open PySem L2 Lf
section
variable {P : Program} {w : World} {K : PySem.W.Frag} {mg : Str → Option Value} {base : Heap} {a : Ad}

/-- Schema(t) of a text that is read -/
theorem ev_Schema {M : Addr → Prop} {σ : L2.St} {H : Hp} {tA : TA} {t : Str} {s : Sch} {E : XK} (ha : EVA K M σ H tA [.im (.str t)]) (hp : ParseOk t) (hs : parseS t = .ok s) : EV K M σ H (tMake a.C_Schema (spInit K a) [] E tA) (.im (eSch a.C_Schema s)) := fun M' H1 w1 s1 Q k =>
  ha M' H1 w1 s1 _ fun vs H2 w2 s2 hv x dx nx nd ne => by
    cases hv with
    | cons h1 h2 =>
    cases h2
    cases (show _ = V.str t from h1)
    have sm : Same H2 (upd (upd H2 dx (.own x)) x (.ins a.C_Schema dx [])) := Same.make nx nd
    have wd : Wd (adM M' x) (upd (upd H2 dx (.own x)) x (.ins a.C_Schema dx [])) := Wd.add (w2.same sm) (by rw [upd_same]; exact fun z => nomatch z)
    refine ⟨adM M' x, x, dx, t, rfl, wd, .inr rfl, upd_same, hp, fun s' H3 e3 w3 b3 r3 => ⟨rfl, ?_⟩, fun e d H3 e3 => ?_⟩
    · rw [hs] at e3
      cases e3
      refine k _ H3 (fun q hq => w3 q (.inl hq)) (fun q o e => ?_) ?_
      · have h2 : H2 q = some o := s2 q o e
        exact b3 q o (sm q o h2) (by simpa using ne_of_none h2 nx)
      · refine rD.mono (fun q o z => ⟨z.1, fun y => z.2 ⟨.inl y, fun e => ?_⟩⟩) _ _ r3
        rw [e] at y
        exact w2 x y nx
    · rw [hs] at e3
      cases e3

def schOf (t : Str) : Sch := match parseS t with
  | .ok s => s
  | .error _ => ⟨t, [], []⟩
def pre_Schema (t : Str) : Prop := ParseOk t ∧ ∃ s, parseS t = .ok s
theorem schOf_eq {t : Str} {s : Sch} (h : parseS t = .ok s) : schOf t = s := by unfold schOf; rw [h]
theorem ev_mkSchema {M : Addr → Prop} {σ : L2.St} {H : Hp} {tA : TA} {t : Str} {E : XK} (ha : EVA K M σ H tA [.im (.str t)]) (hp : pre_Schema t) : EV K M σ H (tMake a.C_Schema (spInit K a) [] E tA) (.im (eSch a.C_Schema (schOf t))) := by
  obtain ⟨h1, s, h2⟩ := hp
  rw [schOf_eq h2]
  exact ev_Schema ha h1 h2
def MK (C : Addr) (sp : Sp) (dvs : List V) (E : XK) (vs : List V) (H1 : Hp) (Q : VK) : Prop := ∀ x dx, H1 x = none → H1 dx = none → dx ≠ x → sp (.ref x :: (vs ++ dvs)) (upd (upd H1 dx (.own x)) x (.ins C dx [])) (fun v H2 => v = .non ∧ Q (.ref x) H2) E
theorem x_make {C : Addr} {sp : Sp} {dvs : List V} {E : XK} {tA : TA} {σ : L2.St} {H : Hp} {Q : VK} (h : tA σ H fun vs H1 => MK C sp dvs E vs H1 Q) : tMake C sp dvs E tA σ H Q := h
theorem mk_Schema {M : Addr → Prop} {H : Hp} {t : Str} {E : XK} {Q : VK} (w : Wd M H) (hp : pre_Schema t) (k : ∀ v H2, Wd M H2 → Same H H2 → rV K M H2 (.im (eSch a.C_Schema (schOf t))) v → Q v H2) : MK a.C_Schema (spInit K a) [] E [.str t] H Q :=
  (ev_mkSchema (σ := []) (tA := fun _ H Q => Q [.str t] H) (E := E) (fun M' H1 w1 s1 Q k => k _ H1 w1 (fun _ _ h => h) (.cons rfl .nil)) hp).go w k

end
end Toy

set_option Elab.async false
set_option linter.all false
set_option maxRecDepth 100000
set_option maxHeartbeats 4000000
set_option pp.maxSteps 300
set_option pp.deepTerms false
namespace Toy
open PySem L2 Lf
section
variable {P : Program} {w : World} {K : PySem.W.Frag} {mg : Str → Option Value} {base : Heap} {a : Ad}

def prodF (tops : List Int) : Int := tops.foldl (fun m t => m * (t + 1)) 1
def pre_pf (tops : List Int) : Prop := tops.length ≤ 2 ∧ ∀ t ∈ tops, 1 ≤ t ∧ t ≤ 3
theorem prodF_bd : ∀ (tops : List Int) (m : Int), 0 ≤ m → (∀ t ∈ tops, 1 ≤ t ∧ t ≤ 3) → 0 ≤ tops.foldl (fun m t => m * (t + 1)) m ∧ tops.foldl (fun m t => m * (t + 1)) m ≤ m * 4 ^ tops.length
  | [], m, h0, _ => ⟨h0, by simp⟩
  | t :: tops, m, h0, h => by
    obtain ⟨a, b⟩ := h t (List.mem_cons_self ..)
    have m0 : 0 ≤ m * (t + 1) := Int.mul_nonneg h0 (by omega)
    obtain ⟨c, d⟩ := prodF_bd tops (m * (t + 1)) m0 fun u hu => h u (List.mem_cons_of_mem _ hu)
    refine ⟨c, Int.le_trans d ?_⟩
    rw [List.length_cons, Int.pow_succ, Int.mul_comm (4 ^ tops.length) 4, ← Int.mul_assoc]
    exact Int.mul_le_mul_of_nonneg_right (Int.mul_le_mul_of_nonneg_left (by omega) h0) (Int.pow_nonneg (by decide))
def W_l_product_b1 (many2 : Int) (top : Int) (P : Int → Prop) (nx : Int → Prop) : Prop :=
  (CMul many2 (top + 1)) ∧ ∀ many3 : Int, many3 = (many2 * (top + 1)) → nx many3
def W_l_product_k1 (many2 : Int) (P : Int → Prop) : Prop :=
  P many2
def W_l_product (tops : (List Int)) (P : Int → Prop) : Prop :=
  ∃ Inv : Nat → Int → Prop, Inv 0 1 ∧ (∀ (i : Nat) (top : Int) (many2 : Int), tops[i]? = some top → Inv i many2 → W_l_product_b1 many2 top P (Inv (i + 1))) ∧ (∀ (many2 : Int), Inv tops.length many2 → W_l_product_k1 many2 P)
theorem dW_l_product {tops : List Int} (hp : pre_pf tops) (P : Int → Prop) (hP : P (prodF tops)) : W_l_product tops P := by
  obtain ⟨h2, h3⟩ := hp
  refine ⟨fun i m => m = (tops.take i).foldl (fun m t => m * (t + 1)) 1, rfl, ?_, ?_⟩
  · rintro i t m hi rfl
    obtain ⟨a, b⟩ := h3 t (List.mem_of_getElem? hi)
    obtain ⟨c, d⟩ := prodF_bd (tops.take i) 1 (by decide) fun u hu => h3 u (List.mem_of_mem_take hu)
    have il := (List.getElem?_eq_some_iff.mp hi).1
    have e4 : (4 : Int) ^ (tops.take i).length ≤ 16 := by
      have : (tops.take i).length ≤ 2 := by rw [List.length_take]; omega
      generalize (tops.take i).length = k at this
      have : k = 0 ∨ k = 1 ∨ k = 2 := by omega
      rcases this with rfl | rfl | rfl <;> decide
    refine ⟨.inl ⟨by omega, by omega⟩, ?_⟩
    rintro _ rfl
    show _ = _
    rw [List.take_add_one, hi, List.foldl_append]
    rfl
  · rintro m rfl
    rw [List.take_length]
    exact hP
def sp_l_product (K : PySem.W.Frag) : Sp := spF K (fun (x : (List Int)) => [(eL D.int) x]) D.int (fun (x : (List Int)) => pre_pf x) (fun (x : (List Int)) => prodF x)
theorem cd_l_product {E : XK} (tops : (List Int)) (hp : pre_pf tops) : CaD K (fun vs H Q => sp_l_product K vs H Q E) [.im ((eL D.int) tops)] (.im (D.int (prodF tops))) := cd_fn (ens := (fun (x : (List Int)) => [(eL D.int) x])) (er := D.int) tops hp
theorem sc_l_product : FnScope ["_law_tops", "_law_many", "_law_top"] ["_law_tops"] (defScope s_l_product) := ⟨rfl, rfl, rfl, by decide +kernel, rfl, by decide +kernel, by decide +kernel⟩
theorem ok_l_product (T : Txt K mg a) : FnOk P w K mg base CX0 1 a.f_l_product a.d_l_product ["_law_tops"] (sp_l_product K) := by
  refine T.F_l_product.ok sc_l_product (fun vs H Q E h => ?_) (fun cdv A outer s H vs Q E hr h => ?_)
  · obtain ⟨M0, x, w0, hx, _⟩ := h
    exact hx.len
  · obtain ⟨M0, x, w0, hx, hp, kq⟩ := h
    obtain ⟨tops, ex⟩ : ∃ z, z = x := ⟨_, rfl⟩
    subst ex
    have hx : rDs K (Fx M0 H) [(eL D.int) tops] vs := hx
    obtain ⟨v, _, rfl, h2, rfl⟩ := hx
    obtain ⟨Y, eY⟩ : ∃ Y : List Addr, Y = [] := ⟨_, rfl⟩
    have g : Gd M0 [] Y H H := Gd.start w0 (by rw [eY]; exact fun y h => nomatch h)
    have h2 : rV K (mxM M0 []) H (.im ((eL D.int) tops)) v := rV.lx Gd.lx0 (show rV K M0 H (.im ((eL D.int) tops)) v from h2)
    obtain ⟨P, eP⟩ : ∃ P : Int → Prop, P = fun r => r = prodF tops := ⟨_, rfl⟩
    have kk : ∀ r v H2, P r → Wd M0 H2 → Same H H2 → rD K (Fx M0 H2) (D.int r) v → Q v H2 := fun r v H2 e => by rw [eP] at e; rw [show r = prodF tops from e]; exact kq v H2
    have hw : W_l_product tops P := dW_l_product hp P (by rw [eP])
    unfold W_l_product at hw
    refine ⟨_, (pss_cons (ps_set (i := 1) sc_l_product.nd rfl (.inl rfl) pe_int)
      (pss_cons (ps_for PassesOwn.never rfl (pi_list (pv 0)) (pg_name (i := 2) sc_l_product.nd rfl (.inl rfl))
      (pss_cons (ps_set (i := 1) sc_l_product.nd rfl (.inl rfl) (pe_op op_mul (pv 1) (pe_op op_add (pv 2) pe_int)))
      pss_nil))
      (pss_cons (ps_ret (pv 1))
      pss_nil))), ?_⟩
    refine st_set ?_
    refine EV.go (K := K) (d := (.im (D.int 1))) ev_int g.wd fun v2 H2 wd s2 h3 => ?_
    have g2 := g.same s2
    cases (show v2 = (V.int 1) from h3)
    try dsimp only [gName]
    refine st_norm (σ' := [some v, some (V.int 1), none]) rfl ?_
    refine st_for ?_
    have h4 : rV K (mxM M0 []) H2 (.im ((eL D.int) tops)) v := (h2.same s2)
    refine EVI.gom (K := K) (en := D.int) (xs := tops) (evi_list (es := List.map D.int tops) (ev_var (d := (.im ((eL D.int) tops))) (i := 0) rfl h4)) g2.wd fun J H3 wd2 s3 wk => ?_
    have g3 := g2.same s3
    obtain ⟨Inv, hI, hI2, hI3⟩ := hw
    refine st_forit wk (fun i σ' H' => ∃ (many2 : Int) (o : Option V), σ' = [some v, some (V.int many2), o] ∧ Gd M0 [] Y H H' ∧ Lx (mxM M0 []) (mxM M0 []) H3 H' ∧ Inv i many2) ⟨1, _, rfl, g3, Lx.refl, hI⟩ (fun i σ' H' _ ⟨_, _, _, _, hl, _⟩ => ⟨_, hl⟩) ?_ ?_
    · rintro i x2 σ' H4 H5 hi ⟨many2, o, rfl, g4, l, hI4⟩ yd
      obtain ⟨top, hy, s4, hr2⟩ := yd_map yd
      have hw := hI2 i top  many2 hy hI4
      have hr2 := hr2 _ g4.wd l
      have g5 := g4.same s4
      cases (show x2 = (V.int top) from hr2)
      unfold W_l_product_b1 at hw
      try dsimp only [gName]
      refine st_norm (σ' := [some v, some (V.int many2), some (V.int top)]) rfl ?_
      refine st_set ?_
      obtain ⟨c, hw⟩ := hw
      refine EV.goA (K := K) (en := D.int) (x0 := (many2 * (top + 1))) (ev_op (ev_vi (i := 1) rfl) (ev_op (ev_vi (i := 2) rfl) ev_int od_add) (od_mul c)) g5.wd fun many3 e v3 H6 wd3 s5 h5 => ?_
      have hw := hw many3 e
      have g6 := g5.same s5
      cases (show v3 = (V.int many3) from h5)
      exact ⟨many3, _, rfl, g6, ((l.trans (Lx.same s4)).trans (Lx.same s5)), hw⟩
    · rintro σ' H7 ⟨many2, o, rfl, g7, l2, hI5⟩
      have hw := hI3 many2 hI5
      unfold W_l_product_k1 at hw
      try dsimp only [gName]
      refine st_norm (σ' := [some v, some (V.int many2), o]) rfl ?_
      refine st_ret ?_
      refine EV.go (K := K) (d := (.im (D.int many2))) (ev_vi (i := 1) rfl) g7.wd fun v4 H8 wd4 s6 h6 => ?_
      have g8 := g7.same s6
      exact kk _ _ _ hw g8.w_end (Bu.nil g8.bu eY) (rV.lx Gd.lx_end h6)

end
end Toy

set_option Elab.async false
set_option linter.all false
set_option maxRecDepth 100000
set_option maxHeartbeats 4000000
set_option pp.maxSteps 300
set_option pp.deepTerms false
namespace Toy
open PySem L2 Lf
section
variable {P : Program} {w : World} {K : PySem.W.Frag} {mg : Str → Option Value} {base : Heap} {a : Ad}

def itemF (z : Str × Int) : Str := (z.1 ++ "=") ++ Str.ofString (toString z.2)
def fieldsF (names : Str) (tops : List Int) : Str := Txt.join " " (((signs names).zip tops).map itemF)
def pre_ff (names : Str) (tops : List Int) : Prop := names.cps.all (· < 128) = true ∧ names.cps.size ≤ 8 ∧ ∀ t ∈ tops, 1 ≤ t ∧ t ≤ 3
theorem sgn_len {x y : Str} (h : y ∈ signs x) : y.length = 1 := by
  unfold signs at h
  obtain ⟨c, _, rfl⟩ := List.mem_map.mp h
  rfl
theorem dig_len {t : Int} (h1 : 1 ≤ t) (h3 : t ≤ 3) : (Str.ofString (toString t)).length = 1 := by
  have : t = 1 ∨ t = 2 ∨ t = 3 := by omega
  rcases this with rfl | rfl | rfl <;> decide +kernel
theorem item_len {names : Str} {tops : List Int} (h : ∀ t ∈ tops, 1 ≤ t ∧ t ≤ 3) : ∀ z ∈ (signs names).zip tops, (itemF z).length = 3 := fun z hz => by
  obtain ⟨a, b⟩ := h z.2 (List.of_mem_zip hz).2
  unfold itemF
  rw [len_cat, len_cat, sgn_len (List.of_mem_zip hz).1, dig_len a b]
  rfl
def W_l_fields (names : Str) (tops : (List Int)) (P : Str → Prop) : Prop :=
  ((names : Str).cps.all (· < 128) = true) ∧ ((List.zip (signs names) tops).length ≤ sizeLine) ∧ (∀ z ∈ (List.zip (signs names) tops), (z.1 : Str).length + ("=" : Str).length ≤ sizeLine) ∧ (∀ z ∈ (List.zip (signs names) tops), (z.2 : Int).natAbs.log2 < 1920) ∧ (∀ z ∈ (List.zip (signs names) tops), ((z.1 ++ "=") : Str).length + ((Str.ofString (toString (z.2 : Int))) : Str).length ≤ sizeLine) ∧ (((((List.zip (signs names) tops).map fun (z : (Str × Int)) => ((z.1 ++ "=") ++ (Str.ofString (toString (z.2 : Int)))))).map (·.length)).sum + ((List.zip (signs names) tops).map fun (z : (Str × Int)) => ((z.1 ++ "=") ++ (Str.ofString (toString (z.2 : Int))))).length * (" " : Str).length ≤ 16777216) ∧ P (Txt.join " " ((List.zip (signs names) tops).map fun (z : (Str × Int)) => ((z.1 ++ "=") ++ (Str.ofString (toString (z.2 : Int))))))
theorem dW_l_fields {names : Str} {tops : List Int} (hp : pre_ff names tops) (P : Str → Prop) (hP : P (fieldsF names tops)) : W_l_fields names tops P := by
  obtain ⟨h1, h2, h3⟩ := hp
  have sl := sizeLine_eq
  have zl : ((signs names).zip tops).length ≤ 8 := by
    rw [List.length_zip]
    have : (signs names).length = names.cps.size := signs_len
    omega
  have il := item_len (names := names) h3
  have se : ("=" : Str).length = 1 := by decide +kernel
  have ss : (" " : Str).length = 1 := by decide +kernel
  refine ⟨h1, by omega, fun z hz => ?_, fun z hz => ?_, fun z hz => ?_, ?_, hP⟩
  · rw [sgn_len (List.of_mem_zip hz).1, se]; omega
  · obtain ⟨a, b⟩ := h3 z.2 (List.of_mem_zip hz).2
    have : z.2.natAbs.log2 ≤ z.2.natAbs := Nat.log2_le_self _
    omega
  · obtain ⟨a, b⟩ := h3 z.2 (List.of_mem_zip hz).2
    rw [len_cat, sgn_len (List.of_mem_zip hz).1, se, dig_len a b]; omega
  · have e : (((signs names).zip tops).map itemF).map (·.length) = ((signs names).zip tops).map fun _ => 3 := by
      rw [List.map_map]
      exact List.map_congr_left fun z hz => il z hz
    show (List.map (fun x => x.length) (((signs names).zip tops).map itemF)).sum + (((signs names).zip tops).map itemF).length * (" " : Str).length ≤ _
    rw [e, ss, List.length_map, List.map_const', List.sum_replicate_nat]
    omega
def sp_l_fields (K : PySem.W.Frag) : Sp := spF K (fun (x : Str × (List Int)) => [D.str x.1, (eL D.int) x.2]) D.str (fun (x : Str × (List Int)) => pre_ff x.1 x.2) (fun (x : Str × (List Int)) => fieldsF x.1 x.2)
theorem cd_l_fields {E : XK} (names : Str) (tops : (List Int)) (hp : pre_ff names tops) : CaD K (fun vs H Q => sp_l_fields K vs H Q E) [.im (D.str names), .im ((eL D.int) tops)] (.im (D.str (fieldsF names tops))) := cd_fn (ens := (fun (x : Str × (List Int)) => [D.str x.1, (eL D.int) x.2])) (er := D.str) (names, tops) hp
theorem sc_l_fields : FnScope ["_law_names", "_law_tops", "_law_name", "_law_top"] ["_law_names", "_law_tops"] (defScope s_l_fields) := ⟨rfl, rfl, rfl, by decide +kernel, rfl, by decide +kernel, by decide +kernel⟩
theorem ok_l_fields (T : Txt K mg a) : FnOk P w K mg base CX0 1 a.f_l_fields a.d_l_fields ["_law_names", "_law_tops"] (sp_l_fields K) := by
  refine T.F_l_fields.ok sc_l_fields (fun vs H Q E h => ?_) (fun cdv A outer s H vs Q E hr h => ?_)
  · obtain ⟨M0, x, w0, hx, _⟩ := h
    exact hx.len
  · obtain ⟨M0, x, w0, hx, hp, kq⟩ := h
    obtain ⟨names, tops⟩ := x
    have hx : rDs K (Fx M0 H) [D.str names, (eL D.int) tops] vs := hx
    obtain ⟨v2, _, rfl, h3, v, _, rfl, h2, rfl⟩ := hx
    obtain ⟨Y, eY⟩ : ∃ Y : List Addr, Y = [] := ⟨_, rfl⟩
    have g : Gd M0 [] Y H H := Gd.start w0 (by rw [eY]; exact fun y h => nomatch h)
    cases (show v2 = (V.str names) from h3)
    have h2 : rV K (mxM M0 []) H (.im ((eL D.int) tops)) v := rV.lx Gd.lx0 (show rV K M0 H (.im ((eL D.int) tops)) v from h2)
    obtain ⟨P, eP⟩ : ∃ P : Str → Prop, P = fun r => r = fieldsF names tops := ⟨_, rfl⟩
    have kk : ∀ r v H2, P r → Wd M0 H2 → Same H H2 → rD K (Fx M0 H2) (D.str r) v → Q v H2 := fun r v H2 e => by rw [eP] at e; rw [show r = fieldsF names tops from e]; exact kq v H2
    have hw : W_l_fields names tops P := dW_l_fields hp P (by rw [eP])
    unfold W_l_fields at hw
    refine ⟨_, (pss_cons (ps_ret (pe_joinR pe_str (pe_lc (own := [("_law_name", 2), ("_law_top", 3)]) (g := gTup K 2 (gCons (gName 2) (gCons (gName 3) gNil))) (tt := tYes) (te := (tOp Lf.rAddS (tOp Lf.rAddS (tVar 2) (tC (.str "="))) (tCB rStrI (tCons (tVar 3) tNil)))) rfl sc_l_fields.nd (pi_zipS (by rfl) T.b_zip (pa_cons (pv 0) (pa_cons (pv 1) pa_nil))) (blkOk_by (own := [("_law_name", 2), ("_law_top", 3)]) (N := ["_law_names", "_law_tops", "_law_name", "_law_top"]) (sc := defScope s_l_fields) (by decide +kernel)) (fun _ _ _ _ _ => (pg_tup rfl (pgs_cons (pg_name (i := 2) sc_l_fields.nd rfl (.inl rfl)) (pgs_cons (pg_name (i := 3) sc_l_fields.nd rfl (.inl rfl)) pgs_nil)))) (fun _ _ _ _ _ => pts_nil) (fun _ _ _ _ _ => (pe_op op_add_str (pe_op op_add_str (pv 2) pe_str) (pe_callTy call_str_int (by rfl) T.b_str (by decide +kernel) (pa_cons (pv 3) pa_nil)))))))
      pss_nil), ?_⟩
    refine st_ret ?_
    obtain ⟨c, c2, c3, c4, c5, c6, hw⟩ := hw
    refine EV.go (K := K) (d := (.im (D.str (Txt.join " " ((List.zip (signs names) tops).map fun (z : (Str × Int)) => ((z.1 ++ "=") ++ (Str.ofString (toString (z.2 : Int))))))))) (ev_m1 ev_str (ev_lcmm (fd := fun (z : (Str × Int)) => ((z.1 ++ "=") ++ (Str.ofString (toString (z.2 : Int))))) (en2 := D.str) (xs := (List.zip (signs names) tops)) (en := (eP2 D.str D.int)) (evi_zipS (en' := D.int) (x := names) (ys := tops) (eva_cons (ev_vs (i := 0) rfl) (eva_cons (ev_var (d := (.im ((eL D.int) tops))) (i := 1) rfl h2) eva_nil)) c) GI.ex gm_tup2 c2 (fun z hy M H2 v5 wd ex h6 => g_tup2 (d1 := D.str z.1) (d2 := D.int z.2) h6 fun v3 v4 h4 h5 => ⟨rfl, rfl, (ev_op (ev_op (ev_var (d := (.im (D.str z.1))) (i := 2) rfl h4) ev_str (od_addS (c3 z hy))) (ev_cb (eva_cons (ev_var (d := (.im (D.int z.2))) (i := 3) rfl h5) eva_nil) (cd_strI (c4 z hy))) (od_addS (c5 z hy)))⟩)) (md_join (ys := ((List.zip (signs names) tops).map fun (z : (Str × Int)) => ((z.1 ++ "=") ++ (Str.ofString (toString (z.2 : Int)))))) (.inl LsOf.im) c6)) g.wd fun v6 H3 wd2 s2 h7 => ?_
    have g2 := g.same s2
    exact kk _ _ _ hw g2.w_end (Bu.nil g2.bu eY) (rV.lx Gd.lx_end h7)

end
end Toy

set_option Elab.async false
set_option linter.all false
set_option maxRecDepth 100000
set_option maxHeartbeats 4000000
set_option pp.maxSteps 300
set_option pp.deepTerms false
namespace Toy
open PySem L2 Lf
section
variable {P : Program} {w : World} {K : PySem.W.Frag} {mg : Str → Option Value} {base : Heap} {a : Ad}

theorem split_list {s : Nat} : ∀ (n : Nat) (l : List Nat), l.length ≤ n → ∃ ps : List (List Nat), ps ≠ [] ∧ l = TL.joinL [s] ps ∧ ∀ p ∈ ps, s ∉ p
  | n, l, h => by
    by_cases c : s ∈ l
    · obtain ⟨a, b, h1, h2⟩ := first_split c
      cases n with
      | zero => rw [h1, List.length_append, List.length_cons] at h; omega
      | succ n =>
        obtain ⟨ps, p1, p2, p3⟩ := split_list n b (by rw [h1, List.length_append, List.length_cons] at h; omega)
        cases ps with
        | nil => exact absurd rfl p1
        | cons q r =>
          refine ⟨a :: q :: r, by simp, ?_, fun p hp => ?_⟩
          · rw [h1, p2]; rfl
          · rcases List.mem_cons.mp hp with rfl | hp
            · exact h2
            · exact p3 p hp
    · exact ⟨[l], by simp, rfl, fun p hp => by rw [List.mem_singleton.mp hp]; exact c⟩
theorem joinL_ge {s : Nat} : ∀ ps : List (List Nat), (∀ p ∈ ps, p.length ≤ (TL.joinL [s] ps).length) ∧ ps.length ≤ (TL.joinL [s] ps).length + 1
  | [] => ⟨fun p hp => (nomatch hp), by simp⟩
  | [p] => ⟨fun q hq => by rw [List.mem_singleton.mp hq]; exact Nat.le_refl _, by simp⟩
  | p :: q :: r => by
    obtain ⟨h1, h2⟩ := joinL_ge (s := s) (q :: r)
    have e : (TL.joinL [s] (p :: q :: r)).length = p.length + (1 + (TL.joinL [s] (q :: r)).length) := by
      show (p ++ ([s] ++ TL.joinL [s] (q :: r))).length = _
      rw [List.length_append, List.length_append]; rfl
    rw [e]
    refine ⟨fun z hz => ?_, ?_⟩
    · rcases List.mem_cons.mp hz with rfl | hz
      · omega
      · have := h1 z hz; omega
    · rw [List.length_cons]; omega
structure SpOk (t y : Str) (s : Nat) : Prop where
  ne : Txt.split t y ≠ []
  len : (Txt.split t y).length ≤ t.length + 1
  ps : ∀ p ∈ Txt.split t y, p.length ≤ t.length
  jn : t = Txt.join y (Txt.split t y)
  no : ∀ p ∈ Txt.split t y, s ∉ TL.tl p
theorem split_any {y : Str} {s : Nat} (ey : TL.tl y = [s]) (hk : y.cps.all (· < 256) = true) (t : Str) : SpOk t y s := by
  obtain ⟨ls, h1, h2, h3⟩ := split_list (s := s) _ (TL.tl t) (Nat.le_refl _)
  obtain ⟨ps, ep⟩ : ∃ ps : List Str, ps.map TL.tl = ls := ⟨ls.map fun l => ⟨l.toArray⟩, by
    rw [List.map_map]
    conv => rhs; rw [← List.map_id ls]
    exact List.map_congr_left fun l _ => by simp [TL.tl]⟩
  have et : t = Txt.join y ps := by
    apply TL.ext_tl
    rw [TL.join_eq, TL.tl_join, ey, ep, h2]
  have hp : ∀ p ∈ ps, s ∉ TL.tl p := fun p hp => h3 _ (by rw [← ep]; exact List.mem_map.mpr ⟨p, hp, rfl⟩)
  have es : Txt.split t y = ps := by
    conv => lhs; rw [et]
    exact TL.split_join ey hk (fun e => h1 (by rw [← ep, e]; rfl)) hp
  obtain ⟨g1, g2⟩ := joinL_ge (s := s) ls
  rw [← h2] at g1 g2
  refine ⟨by rw [es]; exact fun e => h1 (by rw [← ep, e]; rfl), ?_, fun p hp => ?_, by rw [es]; exact et, by rw [es]; exact hp⟩
  · rw [es, TL.len_tl t]
    have : ps.length = ls.length := by rw [← ep, List.length_map]
    omega
  · rw [es] at hp
    rw [TL.len_tl p, TL.len_tl t]
    exact g1 _ (by rw [← ep]; exact List.mem_map.mpr ⟨p, hp, rfl⟩)
theorem split_sp (t : Str) : SpOk t " " 32 := split_any sp_sign (by decide +kernel) t
theorem split_us (t : Str) : SpOk t "_" 95 := split_any us_sign (by decide +kernel) t
theorem split_nl (t : Str) : SpOk t "\n" 10 := split_any nl_sign (by decide +kernel) t
theorem cutS_len (z : Str) (lo hi : Option Int) : (cutS z lo hi).length ≤ z.length := by
  rw [TL.len_tl z]
  unfold cutS
  rw [TL.len_tl, TL.tl_mk, List.length_take, List.length_drop]
  show _ ≤ z.cps.toList.length
  omega
theorem rline_any {l : Str} (h : l.length ≤ 50000) (b : Bool) : pre_rline l b := by
  have sp := split_sp l
  refine ⟨by omega, sp.ne, by have := sp.len; omega, fun w hw => by have := sp.ps w hw; omega, fun w hw => ?_⟩
  have wl := sp.ps w hw
  have cl := cutS_len w none (some (-1))
  have us := split_us (cutS w none (some (-1)))
  exact ⟨by have := us.len; omega, by omega, fun p hp => by have := us.ps p hp; omega⟩
theorem LW_of {w : Str} (h : isWord w = true) : LW w := by
  unfold isWord at h
  simp only [Bool.and_eq_true, decide_eq_true_eq, Bool.not_eq_true', decide_eq_false_iff_not, List.all_map, List.all_eq_true] at h
  obtain ⟨⟨h1, h2⟩, h3, h4⟩ := h
  refine ⟨by omega, by omega, h3, fun c hc => ?_⟩
  have := h4 ⟨#[c]⟩ (by unfold signs; exact List.mem_map.mpr ⟨c, hc, rfl⟩)
  have : inC ⟨#[c]⟩ "abcdefghijklmnopqrstuvwxyz" = true := this
  unfold inC at this
  rw [decide_eq_true_iff] at this
  exact abc_mem.mp this
theorem top_inv {t : Str} (h : t ∈ (["1", "2", "3"] : List Str)) : 1 ≤ intOf t ∧ intOf t ≤ 3 := by
  simp only [List.mem_cons, List.not_mem_nil, or_false] at h
  rcases h with rfl | rfl | rfl <;> decide +kernel
theorem colFold_inv : ∀ (ws : List Str) (acc f : List (Str × Int)), (∀ c ∈ acc, LW c.1) → (∀ c ∈ acc, 1 ≤ c.2 ∧ c.2 ≤ 3) → (acc.map (·.1)).Nodup → ws.foldl colStep (some acc) = some f → (∀ c ∈ f, LW c.1) ∧ (∀ c ∈ f, 1 ≤ c.2 ∧ c.2 ≤ 3) ∧ (f.map (·.1)).Nodup
  | [], acc, f, h1, h2, h3, e => by cases e; exact ⟨h1, h2, h3⟩
  | w :: ws, acc, f, h1, h2, h3, e => by
    rw [List.foldl_cons] at e
    by_cases c : colBad acc w = true
    · rw [colStep_yes c, colStep_none] at e; cases e
    · rw [colStep_no c] at e
      unfold colBad at c
      simp only [Bool.or_eq_true, not_or, Bool.not_eq_true', Bool.not_eq_false, decide_eq_false_iff_not, decide_eq_true_eq, Classical.not_not] at c
      obtain ⟨c1, c2, c3, c4⟩ := c
      refine colFold_inv ws _ f (fun z hz => ?_) (fun z hz => ?_) ?_ e
      · rcases List.mem_append.mp hz with hz | hz
        · exact h1 z hz
        · rw [List.mem_singleton.mp hz]; exact LW_of c1
      · rcases List.mem_append.mp hz with hz | hz
        · exact h2 z hz
        · rw [List.mem_singleton.mp hz]; exact top_inv c3
      · rw [List.map_append, List.nodup_append]
        refine ⟨h3, by simp, fun a ha b hb => ?_⟩
        rw [show b = (Txt.partition w "=").1 by simpa using hb]
        intro e
        rw [e] at ha
        exact c4 ha
theorem readCols_inv {ws : List Str} {cs : List (Str × Int)} (h : readCols ws = some cs) : ColsOk cs := by
  unfold readCols at h
  cases e : ws.foldl colStep (some []) with
  | none => rw [e] at h; cases h
  | some f =>
    rw [e] at h
    obtain ⟨h1, h2, h3⟩ := colFold_inv ws [] f (fun c hc => nomatch hc) (fun c hc => nomatch hc) (by simp) e
    unfold colEnd at h
    dsimp only at h
    split at h
    · rename_i c
      cases h
      simp only [Bool.and_eq_true, decide_eq_true_eq] at c
      exact ⟨by omega, by omega, h1, h2, h3⟩
    · cases h
theorem readLine_first {l : Str} {f : Rec} (h : readLine l true = some f) : ∃ cs, f = (Str.ofString "", Str.ofString "", cs) ∧ ColsOk cs := by
  unfold readLine at h
  cases e : readCols (Txt.split l " ").tail with
  | none => rw [e] at h; cases h
  | some cs =>
    rw [e] at h
    dsimp only at h
    rw [if_pos rfl] at h
    split at h
    · cases h; exact ⟨cs, rfl, readCols_inv e⟩
    · cases h
theorem readLine_next {l : Str} {f : Rec} (h : readLine l false = some f) : RecOk f := by
  unfold readLine at h
  cases e : readCols (Txt.split l " ").tail with
  | none => rw [e] at h; cases h
  | some cs =>
    rw [e] at h
    dsimp only at h
    rw [if_neg (show ¬ false = true by decide)] at h
    split at h
    · cases h
    · rename_i c
      cases h
      unfold lineBad at c
      simp only [Bool.or_eq_true, not_or, Bool.not_eq_true', Bool.not_eq_false, decide_eq_false_iff_not, decide_eq_true_eq, Classical.not_not, List.all_map, List.all_eq_true] at c
      obtain ⟨c1, c2, c3⟩ := c
      have us := split_us (cutS ((Txt.split l " ").headD default) none (some (-1)))
      exact ⟨⟨_, us.jn, us.ne, by omega, fun w hw => LW_of (c3 w hw)⟩, c1, readCols_inv e⟩
section
variable {t : Str}
theorem lines_at {i : Nat} {z : Int × Str} (h : (linesOf t)[i]? = some z) : z.1 = i ∧ z.2.length ≤ t.length := by
  unfold linesOf at h
  rw [enumI_get] at h
  obtain ⟨l, hl, e⟩ := Option.map_eq_some_iff.mp h
  cases e
  exact ⟨rfl, (split_nl t).ps l (List.mem_of_getElem? hl)⟩
/-- whatever is read so far is a list of records -/
theorem shape_any : ∀ (j : Nat) (s : Sch), j < (linesOf t).length → ((linesOf t).take (j + 1)).foldl stepS (.ok ⟨t, [], []⟩) = .ok s → ∃ c0 rs, RecsOk c0 rs ∧ rs.length = j ∧ j ≤ 5 ∧ s = SchOf t (allR c0 rs)
  | 0, s, hj, hs => by
    have hz : (linesOf t)[0]? = some (linesOf t)[0] := List.getElem?_eq_getElem hj
    obtain ⟨q1, q2⟩ := lines_at hz
    rw [take_fold _ _ _ hz, List.take_zero, List.foldl_nil] at hs
    unfold stepS at hs
    dsimp only at hs
    rw [decide_eq_true (show (linesOf t)[0].1 = 0 from q1)] at hs
    split at hs
    · cases hs
    · rename_i c
      split at hs
      · cases hs
      · cases hs
        cases e : readLine (linesOf t)[0].2 true with
        | none => rw [e] at c; exact absurd rfl c
        | some f =>
          obtain ⟨cs, rfl, hc⟩ := readLine_first e
          exact ⟨cs, [], ⟨hc, fun r hr => nomatch hr⟩, rfl, by decide, rfl⟩
  | j + 1, s, hj, hs => by
    have hz : (linesOf t)[j + 1]? = some (linesOf t)[j + 1] := List.getElem?_eq_getElem hj
    obtain ⟨q1, q2⟩ := lines_at hz
    rw [take_fold _ _ _ hz] at hs
    cases e : ((linesOf t).take (j + 1)).foldl stepS (.ok ⟨t, [], []⟩) with
    | error x => rw [e] at hs; cases hs
    | ok s0 =>
      obtain ⟨c0, rs, ro, rl, j5, e0⟩ := shape_any j s0 (by omega) e
      rw [e] at hs
      unfold stepS at hs
      dsimp only at hs
      rw [decide_eq_false (show ¬ (linesOf t)[j + 1].1 = 0 by rw [q1]; omega)] at hs
      split at hs
      · cases hs
      · rename_i c
        split at hs
        · cases hs
        · cases hs
          simp only [Bool.or_eq_true, not_or, Bool.not_eq_true', Bool.not_eq_false, decide_eq_true_eq] at c
          obtain ⟨c1, c2, c3⟩ := c
          cases e2 : readLine (linesOf t)[j + 1].2 false with
          | none => rw [e2] at c1; exact absurd rfl c1
          | some f =>
            rw [e2, e0] at c3
            have c3 : (SchOf t (allR c0 rs)).admits f.1 false = true := c3
            have hf := readLine_next e2
            refine ⟨c0, rs ++ [f], ⟨ro.c0, fun r hr => ?_⟩, by rw [List.length_append, rl]; rfl, by rw [q1] at c2; omega, ?_⟩
            · rcases List.mem_append.mp hr with hr | hr
              · exact ro.rs r hr
              · rw [List.mem_singleton.mp hr]; exact hf
            · rw [e0]
              show (SchOf t (allR c0 rs)).put f = _
              rw [put_SchOf (admits_new c3).1]
              rfl
theorem parseOk_any (h : t.length ≤ 50000) : ParseOk t := by
  refine ⟨sz_ofS (by omega), fun i z s hz hs => ?_⟩
  obtain ⟨q1, q2⟩ := lines_at hz
  have il : i < (linesOf t).length := (List.getElem?_eq_some_iff.mp hz).1
  cases i with
  | zero =>
    cases hs
    have d0 : decide (z.1 = 0) = true := decide_eq_true (by rw [q1]; rfl)
    refine ⟨rline_any (by omega) _, fun f _ _ hb => ?_, ⟨sz_lt (show 0 < 100000 by decide), sz_lt (show 0 < 100000 by decide)⟩, fun f hf _ _ => ?_⟩
    · rw [d0] at hb; cases hb
    · rw [d0] at hf
      obtain ⟨cs, rfl, hc⟩ := readLine_first hf
      exact hds_ok (rs := []) ⟨hc, fun r hr => nomatch hr⟩ (by simp)
  | succ j =>
    obtain ⟨c0, rs, ro, rl, j5, e0⟩ := shape_any j s (by omega) hs
    subst e0
    have df : decide (z.1 = 0) = false := decide_eq_false (by rw [q1]; omega)
    have wf : WfS (SchOf t (allR c0 rs)) := wfS_of ro (by omega)
    refine ⟨rline_any (by omega) _, fun f hf h6 hb => ?_, ?_, fun f hf h6 ha => ?_⟩
    · rw [df] at hf
      have fo := readLine_next hf
      obtain ⟨ws, pw⟩ := fo.pw
      have := pw.len
      refine ⟨by omega, fun ha => ?_⟩
      have hp := SchOf_marks.mp ha
      have hfl := (SchOf_fields (t := t)).mpr hp
      obtain ⟨q, q1, _, q3⟩ := getA_mem hfl
      refine ⟨?_, hfl, by rw [← q3]; have := (wf.cols q q1).1; omega⟩
      obtain ⟨r2, hr2, e2⟩ := List.mem_map.mp hp
      rw [← e2]
      have := wf.short (r2.1, r2.2.1) (List.mem_map.mpr ⟨r2, hr2, rfl⟩)
      have : r2.1.length ≤ 1000 := this
      omega
    · have := wf.few
      have e : (SchOf t (allR c0 rs)).fields.length = (SchOf t (allR c0 rs)).marks.length := by unfold SchOf; rw [List.length_map, List.length_map]
      exact ⟨sz_lt (by omega), sz_lt (by omega)⟩
    · rw [df] at hf ha
      have fo := readLine_next hf
      rw [put_SchOf (admits_new ha).1]
      exact hds_ok (rs := rs ++ [f]) ⟨ro.c0, fun r hr => by
        rcases List.mem_append.mp hr with hr | hr
        · exact ro.rs r hr
        · rw [List.mem_singleton.mp hr]; exact fo⟩ (by rw [List.length_append, rl]; show j + 1 ≤ 6; omega)
end

end
end Toy

set_option Elab.async false
set_option linter.all false
set_option maxRecDepth 100000
set_option maxHeartbeats 4000000
set_option pp.maxSteps 300
set_option pp.deepTerms false
namespace Toy
open PySem L2 Lf
section
variable {P : Program} {w : World} {K : PySem.W.Frag} {mg : Str → Option Value} {base : Heap} {a : Ad}
def Sch.len (s : Sch) : Int := (s.marks.length : Int)
def W_Schema__len (self : Sch) (P : Int → Prop) : Prop :=
  P (self.marks.length : Int)
theorem dW_Schema__len {s : Sch} (P : Int → Prop) (h : P s.len) : W_Schema__len s P := h
def sp_Schema__len (K : PySem.W.Frag) (a : Ad) : Sp := spF K (fun (x : Sch) => [(eSch a.C_Schema) x]) D.int (fun (x : Sch) => True) (fun (x : Sch) => Sch.len x)
theorem cd_Schema__len {E : XK} (self : Sch) (hp : True) : CaD K (fun vs H Q => sp_Schema__len K a vs H Q E) [.im ((eSch a.C_Schema) self)] (.im (D.int (Sch.len self))) := cd_fn (ens := (fun (x : Sch) => [(eSch a.C_Schema) x])) (er := D.int) self hp
theorem sc_Schema__len : FnScope ["self"] ["self"] (defScope s_Schema__len) := ⟨rfl, rfl, rfl, by decide +kernel, rfl, by decide +kernel, by decide +kernel⟩
theorem ok_Schema__len (T : Txt K mg a) : FnOk P w K mg base CX0 1 a.f_Schema__len a.d_Schema__len ["self"] (sp_Schema__len K a) := by
  refine T.F_Schema__len.ok sc_Schema__len (fun vs H Q E h => ?_) (fun cdv A outer s H vs Q E hr h => ?_)
  · obtain ⟨M0, x, w0, hx, _⟩ := h
    exact hx.len
  · obtain ⟨M0, x, w0, hx, hp, kq⟩ := h
    obtain ⟨self, ex⟩ : ∃ z, z = x := ⟨_, rfl⟩
    subst ex
    have hx : rDs K (Fx M0 H) [(eSch a.C_Schema) self] vs := hx
    obtain ⟨v, _, rfl, h2, rfl⟩ := hx
    obtain ⟨Y, eY⟩ : ∃ Y : List Addr, Y = [] := ⟨_, rfl⟩
    have g : Gd M0 [] Y H H := Gd.start w0 (by rw [eY]; exact fun y h => nomatch h)
    have h2 : rV K (mxM M0 []) H (.im ((eSch a.C_Schema) self)) v := rV.lx Gd.lx0 (show rV K M0 H (.im ((eSch a.C_Schema) self)) v from h2)
    obtain ⟨P, eP⟩ : ∃ P : Int → Prop, P = fun r => r = Sch.len self := ⟨_, rfl⟩
    have kk : ∀ r v H2, P r → Wd M0 H2 → Same H H2 → rD K (Fx M0 H2) (D.int r) v → Q v H2 := fun r v H2 e => by rw [eP] at e; rw [show r = Sch.len self from e]; exact kq v H2
    have hw : W_Schema__len self P := dW_Schema__len  P (by rw [eP])
    unfold W_Schema__len at hw
    refine ⟨_, (pss_cons (ps_ret (pe_callB call_len_dk (by rfl) T.b_len PySem.boot_len (pa_cons (pe_fld (pv 0) rfl) pa_nil)))
      pss_nil), ?_⟩
    refine st_ret ?_
    refine EV.go (K := K) (d := (.im (D.int (self.marks.length : Int)))) (ev_cb (eva_cons (ev_fld 1 (ev_var (d := (.im ((eSch a.C_Schema) self))) (i := 0) rfl h2) T.c_Schema T.n_Schema_marks (by decide) rfl rfl) eva_nil) (cd_lenK (en := D.str) (kvs := self.marks))) g.wd fun v2 H2 wd s2 h3 => ?_
    have g2 := g.same s2
    exact kk _ _ _ hw g2.w_end (Bu.nil g2.bu eY) (rV.lx Gd.lx_end h3)

end
end Toy

set_option Elab.async false
set_option linter.all false
set_option maxRecDepth 100000
set_option maxHeartbeats 4000000
set_option pp.maxSteps 300
set_option pp.deepTerms false
namespace Toy
open PySem L2 Lf
section
variable {P : Program} {w : World} {K : PySem.W.Frag} {mg : Str → Option Value} {base : Heap} {a : Ad}

def rowsK (m0 m1 : Str) : List Str := (["r x=1"] : (List Str)) ++ [(("a" ++ m0) ++ " x=1"), (("b" ++ m1) ++ " x=1"), (("c" ++ "*") ++ " x=1"), (("d" ++ "*") ++ " x=1"), (("e" ++ "*") ++ " x=1"), (("f" ++ "*") ++ " x=1")]
def deepK (m0 m1 : Str) (r : Int) : List Str := ["r x=1", ("a* x=" ++ (Str.ofString (toString ((1 + r) : Int)))), (("a_b" ++ m0) ++ " x=1"), (("a_b_c" ++ m1) ++ " x=1")]
def headsLen (t : Str) : Option (Int × Int) := match parseS t with
  | .ok s => some ((s.marks.length : Int), (s.heads.length : Int))
  | .error _ => none
theorem rows_ok : ∀ m0 ∈ (["*", "!"] : List Str), ∀ m1 ∈ (["*", "!"] : List Str), (headsLen (Txt.join "\n" (cutD (rowsK m0 m1) none (some 6)))).map (·.1) = some 6 ∧ refusedS (Txt.join "\n" (rowsK m0 m1)) = some 6 := by decide +kernel
theorem deep_ok : ∀ m0 ∈ (["*", "!"] : List Str), ∀ m1 ∈ (["*", "!"] : List Str), ∀ r ∈ ([0, 1, 2] : List Int), (headsLen (Txt.join "\n" (deepK m0 m1 r))).map (·.2) = some (2 + (([m0, m1] : List Str).count (Str.ofString "*") : Int)) ∧ refusedS (Txt.join "\n" (deepK m0 m1 r ++ ([Str.ofString "a_b_c_d* x=1"] : List Str))) = some 4 := by decide +kernel
theorem ends_ok : refusedS "r a=3 b=3\nc! d=1" = some 1 ∧ refusedS "r a=3\nc? d=3" = some 1 ∧ refusedS "r a=3 b=3" = none ∧ refusedS "r a=1\nc! d=3 e=1" = none := by decide +kernel

end
end Toy

set_option Elab.async false
set_option linter.all false
set_option maxRecDepth 100000
set_option maxHeartbeats 4000000
set_option pp.maxSteps 300
set_option pp.deepTerms false
namespace Toy
open PySem L2 Lf
section
variable {P : Program} {w : World} {K : PySem.W.Frag} {mg : Str → Option Value} {base : Heap} {a : Ad}

section
variable {t w : Str} {c0 : List (Str × Int)} {rs : List Rec}
theorem run_pre (hw : LW w) (h : RecsOk c0 rs) (ht : t = textR w c0 rs) : ∀ j, j ≤ rs.length → j ≤ 5 → (∀ i, i ≤ j → (SchOf t (allR c0 (rs.take i))).full = false) → (∀ i r, i < j → rs[i]? = some r → (SchOf t (allR c0 (rs.take i))).admits r.1 false = true) → ((linesOf t).take (j + 1)).foldl stepS (.ok ⟨t, [], []⟩) = .ok (SchOf t (allR c0 (rs.take j)))
  | 0, _, _, hf, _ => by
    rw [take_fold _ _ _ (lines_zero hw h ht), List.take_zero, List.foldl_nil, step_first hw h.c0]
    have := hf 0 (Nat.le_refl _)
    rw [List.take_zero] at this
    rw [if_neg (by rw [this]; decide), List.take_zero]
  | j + 1, hj, h5, hf, ha => by
    have ih := run_pre hw h ht j (by omega) (by omega) (fun i hi => hf i (by omega)) (fun i r hi => ha i r (by omega))
    have hr : rs[j]? = some rs[j] := List.getElem?_eq_getElem (by omega)
    have hz : (linesOf t)[j + 1]? = some (((j + 1 : Nat) : Int), recText rs[j]) := by rw [lines_succ hw h ht, hr]; rfl
    have ro := h.rs _ (List.mem_of_getElem? hr)
    have a := ha j _ (by omega) hr
    rw [take_fold _ _ _ hz, ih, step_rec ro, a, decide_eq_false (show ¬ j + 1 = 6 by omega), if_neg (by decide), put_SchOf (admits_new a).1, ← take_rec hr, if_neg (by rw [hf (j + 1) (Nat.le_refl _)]; decide)]
theorem lines_len (hw : LW w) (h : RecsOk c0 rs) (ht : t = textR w c0 rs) : (linesOf t).length = rs.length + 1 := by
  rw [ht, textR_lines hw h]
  unfold enumI linesR
  simp
theorem run_ok (hw : LW w) (h : RecsOk c0 rs) (ht : t = textR w c0 rs) (hl : rs.length ≤ 5) (hf : ∀ i, i ≤ rs.length → (SchOf t (allR c0 (rs.take i))).full = false) (ha : ∀ i r, i < rs.length → rs[i]? = some r → (SchOf t (allR c0 (rs.take i))).admits r.1 false = true) : parseS t = .ok (SchOf t (allR c0 rs)) := by
  have := run_pre hw h ht rs.length (Nat.le_refl _) hl hf ha
  rw [← lines_len hw h ht, List.take_length, List.take_length] at this
  exact this
theorem run_err (hw : LW w) (h : RecsOk c0 rs) (ht : t = textR w c0 rs) {j : Nat} {r : Rec} (hj : rs[j]? = some r) (hl : j ≤ 5) (hf : ∀ i, i ≤ j → (SchOf t (allR c0 (rs.take i))).full = false) (ha : ∀ i r, i < j → rs[i]? = some r → (SchOf t (allR c0 (rs.take i))).admits r.1 false = true)
    (hx : (SchOf t (allR c0 (rs.take j))).admits r.1 false = true → (SchOf t (allR c0 (rs.take (j + 1)))).full = true) : parseS t = .error ((j + 1 : Nat) : Int) := by
  have jl : j < rs.length := (List.getElem?_eq_some_iff.mp hj).1
  have hz : (linesOf t)[j + 1]? = some (((j + 1 : Nat) : Int), recText r) := by rw [lines_succ hw h ht, hj]; rfl
  refine parse_err hz (run_pre hw h ht j (by omega) hl hf ha) ?_
  rw [step_rec (h.rs _ (List.mem_of_getElem? hj))]
  by_cases c : (decide (j + 1 = 6) || !(SchOf t (allR c0 (rs.take j))).admits r.1 false) = true
  · rw [if_pos c]
  · rw [if_neg c]
    simp only [Bool.or_eq_true, not_or, Bool.not_eq_true', Bool.not_eq_false] at c
    rw [put_SchOf (admits_new c.2).1, ← take_rec hj, if_pos (hx c.2)]
end
theorem fold_id {α β : Type} {f : β → α → β} : ∀ {l : List α} {b : β}, (∀ x ∈ l, ∀ b, f b x = b) → l.foldl f b = b
  | [], b, _ => rfl
  | x :: l, b, h => by rw [List.foldl_cons, h x (List.mem_cons_self ..)]; exact fold_id fun y hy => h y (List.mem_cons_of_mem _ hy)
def prodR (m : Int) (subs : List Rec) : Int := subs.foldl (fun (m : Int) (r : Rec) => m * (colsP r.2.2 + (if (decide (r.2.1 = "?")) then (1 : Int) else 0))) m
abbrev isOpt (r : Rec) : Bool := decide (r.2.1 ∈ (["!", "?"] : (List Str)))
theorem many_zero {t : Str} {rs : List Rec} {p q : Str} (hs : ∀ r ∈ rs, isOpt r = true → above r.1 = p) (n : Nat) (hq : q ≠ p) : many (n + 1) (SchOf t rs) q = colsP (getA (SchOf t rs).fields q) := by
  show (SchOf t rs).marks.foldl (manyStep (many n (SchOf t rs)) q) _ = _
  refine fold_id fun z hz b => ?_
  obtain ⟨r, hr, rfl⟩ := List.mem_map.mp hz
  unfold manyStep
  rw [if_neg]
  rw [Bool.and_eq_true]
  rintro ⟨h1, h2⟩
  exact hq ((of_decide_eq_true h2).symm.trans (hs r hr h1))
theorem many_prod {t : Str} {base subs : List Rec} {p : Str} (hb : ∀ r ∈ base, isOpt r = false) (hs : ∀ r ∈ subs, isOpt r = true ∧ above r.1 = p ∧ r.1 ≠ p ∧ getA (SchOf t (base ++ subs)).fields r.1 = r.2.2) (n : Nat) : many (n + 2) (SchOf t (base ++ subs)) p = prodR (colsP (getA (SchOf t (base ++ subs)).fields p)) subs := by
  have h0 : ∀ r ∈ base ++ subs, isOpt r = true → above r.1 = p := fun r hr h => by
    rcases List.mem_append.mp hr with hr | hr
    · rw [hb r hr] at h; cases h
    · exact (hs r hr).2.1
  show ((base ++ subs).map fun r => (r.1, r.2.1)).foldl (manyStep (many (n + 1) (SchOf t (base ++ subs))) p) _ = _
  rw [List.foldl_map, List.foldl_append, fold_id (l := base) (fun r hr b => ?_)]
  · unfold prodR
    refine foldl_eq fun r hr b => ?_
    obtain ⟨h1, h2, h3, h4⟩ := hs r hr
    unfold manyStep
    have e : (decide (r.2.1 ∈ (["!", "?"] : List Str)) && decide (above r.1 = p)) = true := by rw [Bool.and_eq_true]; exact ⟨h1, decide_eq_true h2⟩
    rw [if_pos e, many_zero h0 n h3, h4]
  · unfold manyStep
    rw [if_neg]
    rw [Bool.and_eq_true]
    rintro ⟨h1, _⟩
    have := hb r hr
    rw [show isOpt r = true from h1] at this
    cases this
theorem getA_rec {t : Str} : ∀ {rs : List Rec} {r : Rec}, (rs.map (·.1)).Nodup → r ∈ rs → getA (SchOf t rs).fields r.1 = r.2.2
  | [], r, _, h => nomatch h
  | x :: rs, r, hn, h => by
    rw [List.map_cons, List.nodup_cons] at hn
    show ((((x.1, x.2.2) :: rs.map fun r => (r.1, r.2.2)).find? _).map _).getD _ = _
    rcases List.mem_cons.mp h with rfl | h
    · rw [List.find?_cons_of_pos (by simp)]; rfl
    · have ne : x.1 ≠ r.1 := fun e => hn.1 (by rw [e]; exact List.mem_map.mpr ⟨r, h, rfl⟩)
      rw [List.find?_cons_of_neg (by simpa using ne)]
      exact getA_rec (t := t) hn.2 h

end
end Toy

set_option Elab.async false
set_option linter.all false
set_option maxRecDepth 100000
set_option maxHeartbeats 4000000
set_option pp.maxSteps 300
set_option pp.deepTerms false
namespace Toy
open PySem L2 Lf
section
variable {P : Program} {w : World} {K : PySem.W.Frag} {mg : Str → Option Value} {base : Heap} {a : Ad}

structure TopsOk (tops : List Int) : Prop where
  lo : 1 ≤ tops.length
  hi : tops.length ≤ 2
  tp : ∀ t ∈ tops, 1 ≤ t ∧ t ≤ 3
theorem tops_cases {tops : List Int} (h : TopsOk tops) : (∃ a, tops = [a] ∧ (1 ≤ a ∧ a ≤ 3)) ∨ ∃ a b, tops = [a, b] ∧ (1 ≤ a ∧ a ≤ 3) ∧ (1 ≤ b ∧ b ≤ 3) := by
  obtain ⟨h1, h2, h3⟩ := h
  match tops, h1, h2, h3 with
  | [a], _, _, h3 => exact .inl ⟨a, rfl, h3 a (by simp)⟩
  | [a, b], _, _, h3 => exact .inr ⟨a, b, rfl, h3 a (by simp), h3 b (by simp)⟩
  | _ :: _ :: _ :: _, _, h2, _ => simp at h2
theorem prodF_16 {tops : List Int} (h : TopsOk tops) : prodF tops ≤ 16 ∧ 2 ≤ prodF tops := by
  rcases tops_cases h with ⟨a, rfl, ha⟩ | ⟨a, b, rfl, ha, hb⟩
  · show 1 * (a + 1) ≤ 16 ∧ 2 ≤ 1 * (a + 1)
    omega
  · show 1 * (a + 1) * (b + 1) ≤ 16 ∧ 2 ≤ 1 * (a + 1) * (b + 1)
    have : a = 1 ∨ a = 2 ∨ a = 3 := by omega
    rcases this with rfl | rfl | rfl <;> omega
/-- two names and tops -/
structure Nms (names x y : Str) : Prop where
  sg : signs names = [x, y]
  hx : LW x
  hy : LW y
  ne : x ≠ y
abbrev colsN (names : Str) (tops : List Int) : List (Str × Int) := (signs names).zip tops
theorem colsN_ok {names x y : Str} (hn : Nms names x y) {tops : List Int} (h : TopsOk tops) : ColsOk (colsN names tops) ∧ colsP (colsN names tops) = prodF tops ∧ ∀ c ∈ (colsN names tops).map (·.1), c = x ∨ c = y := by
  unfold colsN
  rw [hn.sg]
  rcases tops_cases h with ⟨a, rfl, ha⟩ | ⟨a, b, rfl, ha, hb⟩
  · refine ⟨⟨by simp, by simp, fun c hc => ?_, fun c hc => ?_, by simp⟩, rfl, fun c hc => ?_⟩
    · rw [show c = (x, a) by simpa using hc]; exact hn.hx
    · rw [show c = (x, a) by simpa using hc]; exact ha
    · exact .inl (by simpa using hc)
  · refine ⟨⟨by simp, by simp, fun c hc => ?_, fun c hc => ?_, by simpa using hn.ne⟩, rfl, fun c hc => ?_⟩
    · rcases (show c = (x, a) ∨ c = (y, b) by simpa using hc) with rfl | rfl
      · exact hn.hx
      · exact hn.hy
    · rcases (show c = (x, a) ∨ c = (y, b) by simpa using hc) with rfl | rfl
      · exact ha
      · exact hb
    · simpa using hc
theorem nab : Nms "ab" "a" "b" := ⟨by decide +kernel, LW_of (by decide +kernel), LW_of (by decide +kernel), by decide +kernel⟩
theorem nfg : Nms "fg" "f" "g" := ⟨by decide +kernel, LW_of (by decide +kernel), LW_of (by decide +kernel), by decide +kernel⟩
theorem nxy : Nms "xy" "x" "y" := ⟨by decide +kernel, LW_of (by decide +kernel), LW_of (by decide +kernel), by decide +kernel⟩
theorem t1 : TopsOk [1] := ⟨by decide, by decide, by simp⟩
theorem str_join2 (y x : Str) {zs : List Str} (h : zs ≠ []) : Txt.join y (x :: zs) = x ++ y ++ Txt.join y zs := by
  cases zs with
  | nil => exact absurd rfl h
  | cons z r => rw [TL.join_eq, TL.join_eq]; rfl
theorem fields_line {first names : Str} {tops : List Int} (h : colsN names tops ≠ []) : (first ++ " ") ++ fieldsF names tops = lineText first (colsN names tops) := by
  unfold lineText
  rw [str_join2 _ _ (fun e => h (List.map_eq_nil_iff.mp e))]
  rfl
theorem PW_of {p : Str} (h1 : (Txt.split p "_").length ≤ 3) (h2 : (Txt.split p "_").all isWord = true) : PW p (Txt.split p "_") := ⟨(split_us p).jn, (split_us p).ne, h1, fun w hw => LW_of (List.all_eq_true.mp h2 w hw)⟩
theorem mk_0 : decide ((Str.ofString "") ∈ (["!", "?"] : (List Str))) = false ∧ decide ((Str.ofString "") ∈ (["", "*"] : (List Str))) = true := by decide +kernel
theorem mk_st : decide ((Str.ofString "*") ∈ (["!", "?"] : (List Str))) = false ∧ decide ((Str.ofString "*") ∈ (["", "*"] : (List Str))) = true := by decide +kernel
def cde : List Str := ["c", "d", "e"]
/-- the first lines, and what the names below them keep -/
structure BK (start p0 : Str) (tops : List Int) (c0 : List (Str × Int)) (pre : List Rec) : Prop where
  tp : TopsOk tops
  ro : RecsOk c0 pre
  pl : pre.length ≤ 1
  sl : start.length ≤ 2
  nm : ∀ nm ∈ cde, above (start ++ nm) = p0 ∧ seenF p0 (start ++ nm) = nm ∧ start ++ nm ∉ (allR c0 pre).map (·.1) ∧ start ++ nm ≠ p0 ∧ PW (start ++ nm) (Txt.split (start ++ nm) "_")
  nd : (cde.map (start ++ ·)).Nodup
  bm : ∀ r ∈ allR c0 pre, isOpt r = false ∧ decide (r.2.1 ∈ (["", "*"] : (List Str))) = true
  hm : p0 ∈ (allR c0 pre).map (·.1)
  ap : ((allR c0 pre).map (·.1)).Nodup
  co : ∀ r ∈ allR c0 pre, r.1 = p0 → r.2.2 = colsN "ab" tops
  sm : ∀ r ∈ allR c0 pre, r.1 ≠ p0 → colsP r.2.2 ≤ 16
  ad : ∀ t i r, pre[i]? = some r → (SchOf t (allR c0 (pre.take i))).admits r.1 false = true
  f0 : ∀ t, pre ≠ [] → (SchOf t (allR c0 [])).full = false
theorem names_ok : ∀ z ∈ ([("", "", [""]), ("k_", "k", ["", "k"]), ("q_", "q", ["", "q"])] : List (Str × Str × List Str)), z.1.length ≤ 2 ∧ (cde.map (z.1 ++ ·)).Nodup ∧ ∀ nm ∈ cde, above (z.1 ++ nm) = z.2.1 ∧ seenF z.2.1 (z.1 ++ nm) = nm ∧ z.1 ++ nm ∉ z.2.2 ∧ z.1 ++ nm ≠ z.2.1 ∧ (Txt.split (z.1 ++ nm) "_").length ≤ 3 ∧ (Txt.split (z.1 ++ nm) "_").all isWord = true := by decide +kernel
theorem bk_root {tops : List Int} (h : TopsOk tops) : BK "" "" tops (colsN "ab" tops) [] := by
  obtain ⟨n1, n2, n3⟩ := names_ok ("", "", [""]) (by simp)
  have ha : ∀ r ∈ allR (colsN "ab" tops) [], r = (Str.ofString "", Str.ofString "", colsN "ab" tops) := fun r hr => List.mem_singleton.mp hr
  refine ⟨h, ⟨(colsN_ok nab h).1, fun r hr => nomatch hr⟩, by decide, n1, fun nm hm => ?_, n2, fun r hr => ?_, by simp [allR], by simp [allR], fun r hr _ => by rw [ha r hr], fun r hr hn => absurd (by rw [ha r hr]) hn, fun t i r hr => by simp at hr, fun t hn => absurd rfl hn⟩
  · obtain ⟨a, b, c, d, e, f⟩ := n3 nm hm
    exact ⟨a, b, c, d, PW_of e f⟩
  · rw [ha r hr]
    exact mk_0
theorem x1 : ColsOk ([(Str.ofString "x", 1)] : List (Str × Int)) := ⟨by decide, by decide, fun c hc => by rw [show c = (Str.ofString "x", 1) by simpa using hc]; exact nxy.hx, fun c hc => by rw [show c = (Str.ofString "x", 1) by simpa using hc]; decide, by simp⟩
theorem bk_link {start p0 : Str} {tops : List Int} (h : TopsOk tops) (hz : (start, p0, [Str.ofString "", p0]) ∈ ([("", "", [""]), ("k_", "k", ["", "k"]), ("q_", "q", ["", "q"])] : List (Str × Str × List Str))) (hp : PW p0 [p0]) (h1 : ¬ p0 = Str.ofString "") (h2 : above p0 = Str.ofString "") (h3 : p0 ≠ Str.ofString "x") : BK start p0 tops [(Str.ofString "x", 1)] [(p0, Str.ofString "*", colsN "ab" tops)] := by
  obtain ⟨n1, n2, n3⟩ := names_ok _ hz
  have ha : ∀ r ∈ allR [(Str.ofString "x", 1)] [(p0, Str.ofString "*", colsN "ab" tops)], r = (Str.ofString "", Str.ofString "", [(Str.ofString "x", 1)]) ∨ r = (p0, Str.ofString "*", colsN "ab" tops) := fun r hr => by simpa [allR] using hr
  refine ⟨h, ⟨x1, fun r hr => ?_⟩, by simp, n1, fun nm hm => ?_, n2, fun r hr => ?_, by simp [allR], by simpa [allR] using fun e => h1 e.symm, fun r hr e => ?_, fun r hr e => ?_, fun t i r hr => ?_, fun t _ => ?_⟩
  · rw [List.mem_singleton.mp hr]
    exact ⟨⟨_, hp⟩, by show Str.ofString "*" ∈ _; decide +kernel, (colsN_ok nab h).1⟩
  · obtain ⟨a, b, c, d, e, f⟩ := n3 nm hm
    exact ⟨a, b, c, d, PW_of e f⟩
  · rcases ha r hr with rfl | rfl
    · exact mk_0
    · exact mk_st
  · rcases ha r hr with rfl | rfl
    · exact absurd e.symm h1
    · rfl
  · rcases ha r hr with rfl | rfl
    · show (1 : Int) * (1 + 1) ≤ 16
      decide
    · exact absurd rfl e
  · cases i with
    | succ i => simp at hr
    | zero =>
      cases hr
      unfold Sch.admits
      rw [if_neg (by decide)]
      have q1 : hasA (SchOf t (allR [(Str.ofString "x", 1)] ([(p0, Str.ofString "*", colsN "ab" tops)].take 0))).marks p0 = false := by
        rw [← Bool.not_eq_true]
        intro z
        have := SchOf_marks.mp z
        exact h1 (by simpa [allR] using this)
      have q2 : hasA (SchOf t (allR [(Str.ofString "x", 1)] ([(p0, Str.ofString "*", colsN "ab" tops)].take 0))).marks (Lf.above p0) = true := SchOf_marks.mpr (by rw [h2]; simp [allR])
      show (if (hasA _ p0 || !hasA _ (Lf.above p0)) = true then false else _) = true
      rw [q1, q2, if_neg (by decide), h2]
      have e1 : seenF (Str.ofString "") p0 = p0 := by
        unfold seenF
        rw [decide_eq_true rfl, if_neg (by decide)]
      rw [e1]
      have e2 : getA (SchOf t (allR [(Str.ofString "x", 1)] ([(p0, Str.ofString "*", colsN "ab" tops)].take 0))).fields (Str.ofString "") = [(Str.ofString "x", 1)] := rfl
      rw [e2]
      simpa using h3
  · have : (SchOf t (allR [(Str.ofString "x", 1)] [])).full = (SchOf "" (allR [(Str.ofString "x", 1)] [])).full := rfl
    rw [this]
    decide +kernel

end
end Toy

set_option Elab.async false
set_option linter.all false
set_option maxRecDepth 100000
set_option maxHeartbeats 4000000
set_option pp.maxSteps 300
set_option pp.deepTerms false
namespace Toy
open PySem L2 Lf
section
variable {P : Program} {w : World} {K : PySem.W.Frag} {mg : Str → Option Value} {base : Heap} {a : Ad}

structure SubsOk (start : Str) (subs : List Rec) : Prop where
  le : subs.length ≤ 3
  nm : subs.map (·.1) = (cde.take subs.length).map (start ++ ·)
  ok : ∀ r ∈ subs, isOpt r = true ∧ ∃ more, TopsOk more ∧ r.2.2 = colsN "fg" more
section
variable {start p0 : Str} {tops : List Int} {c0 : List (Str × Int)} {pre : List Rec} (B : BK start p0 tops c0 pre)
include B
theorem subs_name {subs : List Rec} (S : SubsOk start subs) {r : Rec} (hr : r ∈ subs) : ∃ nm ∈ cde, r.1 = start ++ nm := by
  have : r.1 ∈ subs.map (·.1) := List.mem_map.mpr ⟨r, hr, rfl⟩
  rw [S.nm] at this
  obtain ⟨nm, h1, h2⟩ := List.mem_map.mp this
  exact ⟨nm, List.mem_of_mem_take h1, h2.symm⟩
theorem subs_nodup {subs : List Rec} (S : SubsOk start subs) : ((allR c0 pre ++ subs).map (·.1)).Nodup := by
  rw [List.map_append, List.nodup_append]
  refine ⟨B.ap, ?_, fun a ha b hb e => ?_⟩
  · rw [S.nm]
    exact List.Nodup.sublist ((List.take_sublist _ _).map _) B.nd
  · obtain ⟨r, hr, rfl⟩ := List.mem_map.mp hb
    obtain ⟨nm, hn, e2⟩ := subs_name B S hr
    rw [e2] at e
    rw [e] at ha
    exact (B.nm nm hn).2.2.1 ha
theorem subs_heads {t : Str} {subs : List Rec} (S : SubsOk start subs) : (SchOf t (allR c0 pre ++ subs)).heads = (allR c0 pre).map (·.1) := by
  show ((((allR c0 pre ++ subs).map fun r => (r.1, r.2.1)).filter fun z => decide (z.2 ∈ (["", "*"] : List Str))).map fun z => z.1) = _
  have e1 : ((allR c0 pre).map fun r => (r.1, r.2.1)).filter (fun z => decide (z.2 ∈ (["", "*"] : List Str))) = (allR c0 pre).map fun r => (r.1, r.2.1) := List.filter_eq_self.mpr fun z hz => by
    obtain ⟨r, hr, rfl⟩ := List.mem_map.mp hz
    exact (B.bm r hr).2
  have e2 : (subs.map fun r => (r.1, r.2.1)).filter (fun z => decide (z.2 ∈ (["", "*"] : List Str))) = [] := List.filter_eq_nil_iff.mpr fun z hz => by
    obtain ⟨r, hr, rfl⟩ := List.mem_map.mp hz
    have h := of_decide_eq_true (S.ok r hr).1
    intro c
    have c := of_decide_eq_true c
    have c : r.2.1 ∈ (["", "*"] : List Str) := c
    simp only [List.mem_cons, List.not_mem_nil, or_false] at h c
    rcases h with h | h <;> rcases c with c | c <;> rw [h] at c <;> exact absurd c (by decide +kernel)
  rw [List.map_append, List.filter_append, e1, e2, List.append_nil, List.map_map]
  rfl
theorem subs_full {t : Str} {subs : List Rec} (S : SubsOk start subs) : (SchOf t (allR c0 pre ++ subs)).full = decide (16 < prodR (prodF tops) subs) := by
  have nd := subs_nodup B S
  have hs : ∀ r ∈ subs, isOpt r = true ∧ above r.1 = p0 ∧ r.1 ≠ p0 ∧ getA (SchOf t (allR c0 pre ++ subs)).fields r.1 = r.2.2 := fun r hr => by
    obtain ⟨nm, hn, e⟩ := subs_name B S hr
    obtain ⟨a, b, c, d, f⟩ := B.nm nm hn
    exact ⟨(S.ok r hr).1, by rw [e]; exact a, by rw [e]; exact d, getA_rec nd (List.mem_append_right _ hr)⟩
  have h0 : ∀ r ∈ allR c0 pre ++ subs, isOpt r = true → above r.1 = p0 := fun r hr h => by
    rcases List.mem_append.mp hr with hr | hr
    · rw [(B.bm r hr).1] at h; cases h
    · exact (hs r hr).2.1
  have hp : (SchOf t (allR c0 pre ++ subs)).howMany p0 = prodR (prodF tops) subs := by
    obtain ⟨r, hr, e⟩ := List.mem_map.mp B.hm
    have : getA (SchOf t (allR c0 pre ++ subs)).fields p0 = colsN "ab" tops := by
      rw [← B.co r hr e, ← e]
      exact getA_rec nd (List.mem_append_left _ hr)
    show many (4 + 2) _ _ = _
    rw [many_prod (fun r hr => (B.bm r hr).1) hs 4, this, (colsN_ok nab B.tp).2.1]
  unfold Sch.full
  rw [subs_heads B S]
  by_cases c : 16 < prodR (prodF tops) subs
  · rw [decide_eq_true c, List.any_map, List.any_eq_true]
    exact ⟨p0, B.hm, by show decide _ = true; rw [hp]; exact decide_eq_true c⟩
  · rw [decide_eq_false c, List.any_map, List.any_eq_false]
    intro q hq
    show ¬ decide _ = true
    by_cases e : q = p0
    · rw [e, hp, decide_eq_false c]; decide
    · obtain ⟨r, hr, rfl⟩ := List.mem_map.mp hq
      have : (SchOf t (allR c0 pre ++ subs)).howMany r.1 = colsP r.2.2 := by
        show many (5 + 1) _ _ = _
        rw [many_zero h0 5 e, getA_rec nd (List.mem_append_left _ hr)]
      have s := B.sm r hr e
      rw [this, decide_eq_false (by omega)]
      decide
theorem subs_admits {t : Str} {subs : List Rec} (S : SubsOk start subs) {nm : Str} (hn : cde[subs.length]? = some nm) : (SchOf t (allR c0 pre ++ subs)).admits (start ++ nm) false = true := by
  obtain ⟨a, b, c, d, f⟩ := B.nm nm (List.mem_of_getElem? hn)
  have nd := subs_nodup B S
  unfold Sch.admits
  rw [if_neg (by decide)]
  have q1 : hasA (SchOf t (allR c0 pre ++ subs)).marks (start ++ nm) = false := by
    rw [← Bool.not_eq_true]
    intro z
    have z := SchOf_marks.mp z
    rw [List.map_append, List.mem_append, S.nm] at z
    rcases z with z | z
    · exact c z
    · have h := B.nd
      have e : cde.map (start ++ ·) = (cde.take subs.length).map (start ++ ·) ++ (cde.drop subs.length).map (start ++ ·) := by rw [← List.map_append, List.take_append_drop]
      rw [e, List.nodup_append] at h
      refine h.2.2 _ z _ (List.mem_map.mpr ⟨nm, ?_, rfl⟩) rfl
      exact List.mem_of_getElem? (i := 0) (by rw [List.getElem?_drop]; exact hn)
  have q2 : hasA (SchOf t (allR c0 pre ++ subs)).marks (above (start ++ nm)) = true := by
    rw [a]
    exact SchOf_marks.mpr (by rw [List.map_append]; exact List.mem_append_left _ B.hm)
  rw [q1, q2, if_neg (by decide), a, b]
  obtain ⟨r, hr, e⟩ := List.mem_map.mp B.hm
  have : getA (SchOf t (allR c0 pre ++ subs)).fields p0 = colsN "ab" tops := by
    rw [← B.co r hr e, ← e]
    exact getA_rec nd (List.mem_append_left _ hr)
  rw [this]
  have ab := (colsN_ok nab B.tp).2.2
  have key : ∀ x ∈ cde, x ≠ "a" ∧ x ≠ "b" := by decide +kernel
  obtain ⟨k1, k2⟩ := key nm (List.mem_of_getElem? hn)
  rw [decide_eq_false fun z => (ab nm z).elim k1 k2]
  rfl
theorem SubsOk.take {subs : List Rec} (S : SubsOk start subs) (k : Nat) : SubsOk start (subs.take k) := by
  refine ⟨by rw [List.length_take]; have := S.le; omega, ?_, fun r hr => S.ok r (List.mem_of_mem_take hr)⟩
  rw [List.map_take, S.nm, ← List.map_take, List.take_take, List.length_take]
theorem subs_rec {subs : List Rec} (S : SubsOk start subs) : RecsOk c0 (pre ++ subs) := by
  refine ⟨B.ro.c0, fun r hr => ?_⟩
  rcases List.mem_append.mp hr with hr | hr
  · exact B.ro.rs r hr
  · obtain ⟨nm, hn, e⟩ := subs_name B S hr
    obtain ⟨a, b, c, d, f⟩ := B.nm nm hn
    obtain ⟨h1, more, h2, h3⟩ := S.ok r hr
    refine ⟨⟨_, by rw [e]; exact f⟩, ?_, by rw [h3]; exact (colsN_ok nfg h2).1⟩
    have := of_decide_eq_true h1
    simp only [List.mem_cons, List.not_mem_nil, or_false] at this ⊢
    rcases this with h | h
    · exact .inr (.inl h)
    · exact .inr (.inr h)
/-- all that is read ahead of the last lines -/
theorem pre_take {subs more : List Rec} {i : Nat} (hi : i ≤ pre.length + subs.length) : (i = 0 ∧ pre ≠ [] ∧ (pre ++ subs ++ more).take i = []) ∨ ∃ k, i = pre.length + k ∧ k ≤ subs.length ∧ (pre ++ subs ++ more).take i = pre ++ subs.take k := by
  by_cases c : i < pre.length
  · left
    have := B.pl
    have i0 : i = 0 := by omega
    subst i0
    exact ⟨rfl, fun e => by rw [e] at c; simp at c, by simp⟩
  · right
    refine ⟨i - pre.length, by omega, by omega, ?_⟩
    rw [List.append_assoc, List.take_append, List.take_of_length_le (by omega), List.take_append, show i - pre.length - subs.length = 0 by omega]
    simp
theorem subs_run {t : Str} {subs more : List Rec} (S : SubsOk start subs) (hp : ∀ k, k ≤ subs.length → prodR (prodF tops) (subs.take k) ≤ 16) : (∀ i, i ≤ pre.length + subs.length → (SchOf t (allR c0 ((pre ++ subs ++ more).take i))).full = false) ∧ ∀ i r, i < pre.length + subs.length → (pre ++ subs ++ more)[i]? = some r → (SchOf t (allR c0 ((pre ++ subs ++ more).take i))).admits r.1 false = true := by
  constructor
  · intro i hi
    rcases pre_take B (more := more) hi with ⟨e, h1, h2⟩ | ⟨k, e, h1, h2⟩
    · rw [h2]; exact B.f0 t h1
    · rw [h2]
      show (SchOf t (allR c0 pre ++ subs.take k)).full = false
      rw [subs_full B (SubsOk.take B S k)]
      have := hp k h1
      exact decide_eq_false (by omega)
  · intro i r hi hr
    rcases pre_take B (more := more) (Nat.le_of_lt hi) with ⟨e, h1, h2⟩ | ⟨k, e, h1, h2⟩
    · subst e
      have : pre[0]? = some r := by
        cases pre with
        | nil => exact absurd rfl h1
        | cons x xs => exact hr
      have := B.ad t 0 r this
      rw [List.take_zero] at this
      rw [List.take_zero]
      exact this
    · rw [h2]
      subst e
      have kl : k < subs.length := by omega
      rw [List.append_assoc, List.getElem?_append_right (by omega), show pre.length + k - pre.length = k by omega, List.getElem?_append_left kl] at hr
      have e : (subs.map (·.1))[k]? = some r.1 := by rw [List.getElem?_map, hr]; rfl
      rw [S.nm, List.getElem?_map, List.getElem?_take, if_pos kl] at e
      obtain ⟨nm, hn, e⟩ := Option.map_eq_some_iff.mp e
      rw [← e]
      exact subs_admits B (SubsOk.take B S k) (by rw [List.length_take, Nat.min_eq_left (by omega)]; exact hn)
theorem lwr : LW "r" := LW_of (by decide +kernel)
theorem subs_ok {subs : List Rec} (S : SubsOk start subs) (hp : ∀ k, k ≤ subs.length → prodR (prodF tops) (subs.take k) ≤ 16) : refusedS (textR "r" c0 (pre ++ subs)) = none := by
  obtain ⟨h1, h2⟩ := subs_run B (t := textR "r" c0 (pre ++ subs)) (more := []) S hp
  rw [List.append_nil] at h1 h2
  unfold refusedS
  have := S.le
  have := B.pl
  rw [run_ok (lwr B) (subs_rec B S) rfl (by rw [List.length_append]; omega) (by rw [List.length_append]; exact h1) (by rw [List.length_append]; exact h2)]
theorem subs_err {subs more : List Rec} {r : Rec} (S : SubsOk start subs) (hp : ∀ k, k ≤ subs.length → prodR (prodF tops) (subs.take k) ≤ 16) (S2 : SubsOk start (subs ++ [r])) (hx : 16 < prodR (prodF tops) (subs ++ [r])) (hm : ∀ q ∈ more, RecOk q) : refusedS (textR "r" c0 (pre ++ subs ++ (r :: more))) = some ((pre.length + subs.length + 1 : Nat) : Int) := by
  obtain ⟨h1, h2⟩ := subs_run B (t := textR "r" c0 (pre ++ subs ++ (r :: more))) (more := r :: more) S hp
  unfold refusedS
  have l1 := S2.le
  rw [List.length_append, List.length_singleton] at l1
  have l2 := B.pl
  have ro : RecsOk c0 (pre ++ subs ++ (r :: more)) := ⟨B.ro.c0, fun q hq => by
    have := (subs_rec B S2).rs
    simp only [List.mem_append, List.mem_cons, List.not_mem_nil, or_false] at hq this
    rcases hq with hq | hq | hq
    · exact this q (by rcases hq with hq | hq; exact .inl hq; exact .inr (.inl hq))
    · exact this q (.inr (.inr hq))
    · exact hm q hq⟩
  rw [run_err (lwr B) ro rfl (j := pre.length + subs.length) (r := r) (by rw [List.getElem?_append_right (by rw [List.length_append]; omega), List.length_append]; simp) (by omega) h1 h2 (fun _ => ?_)]
  have e : (pre ++ subs ++ (r :: more)).take (pre.length + subs.length + 1) = pre ++ (subs ++ [r]) := by
    rw [List.take_append, List.take_of_length_le (by rw [List.length_append]; omega), List.length_append, show pre.length + subs.length + 1 - (pre.length + subs.length) = 1 by omega, List.append_assoc]
    rfl
  rw [e]
  show (SchOf _ (allR c0 pre ++ (subs ++ [r]))).full = true
  rw [subs_full B S2]
  exact decide_eq_true hx
end

end
end Toy

set_option Elab.async false
set_option linter.all false
set_option maxRecDepth 100000
set_option maxHeartbeats 4000000
set_option pp.maxSteps 300
set_option pp.deepTerms false
namespace Toy
open PySem L2 Lf
section
variable {P : Program} {w : World} {K : PySem.W.Frag} {mg : Str → Option Value} {base : Heap} {a : Ad}

/-- what the lines and the place of the first that is too much keep -/
structure KBd (d : List Str × Option Int) : Prop where
  le : d.1.length ≤ 5
  ll : ∀ l ∈ d.1, l.length ≤ 60
  rf : refusedS (Txt.join "\n" d.1) = d.2
  at_ : ∀ i, d.2 = some i → refusedS (Txt.join "\n" (cutD d.1 none (some i))) = none ∧ refusedS (Txt.join "\n" (d.1 ++ ([Str.ofString "zzz* a=1"] : List Str))) = some i
def S_kb (n : Nat) (start : Str) (P : (List Str × Option Int) → Nat → Prop) : Prop := n + 100 ≤ 2 ^ 28 ∧ start ∈ (["", "k_", "q_"] : List Str) ∧ ∀ d m, KBd d → m ≤ n + 100 → P d m
theorem cutD_nat {α : Type} (xs : List α) (k : Nat) : cutD xs none (some (k : Int)) = xs.take k := by
  unfold cutD
  have s1 : HT.sIx xs.length xs.length (some (k : Int)) = min k xs.length := by
    show (if (k : Int) < 0 then ((k : Int) + (xs.length : Int)).toNat else min (k : Int).toNat xs.length) = _
    rw [if_neg (by omega)]
    rfl
  rw [s1, HT.sIx_none, List.drop_zero, Nat.sub_zero]
  by_cases c : k ≤ xs.length
  · rw [Nat.min_eq_left c]
  · rw [Nat.min_eq_right (by omega), List.take_of_length_le (Nat.le_refl _), List.take_of_length_le (by omega)]
theorem colsN_ne {names x y : Str} (hn : Nms names x y) {tops : List Int} (h : TopsOk tops) : colsN names tops ≠ [] := fun e => by
  have := (colsN_ok hn h).1.lo
  rw [e] at this
  exact absurd this (by decide)
theorem line_len {names x y first : Str} (hn : Nms names x y) {tops : List Int} (h : TopsOk tops) : ((first ++ " ") ++ fieldsF names tops).length ≤ first.length + 23 := by
  rw [fields_line (colsN_ne hn h)]
  exact lineText_len (colsN_ok hn h).1
theorem fields_len {names x y : Str} (hn : Nms names x y) {tops : List Int} (h : TopsOk tops) : (fieldsF names tops).length ≤ 23 := by
  have := line_len (first := "") hn h
  rw [len_cat] at this
  have e : ("" : Str).length = 0 := by decide +kernel
  omega
theorem recText_len {r : Rec} (h : RecOk r) : (recText r).length ≤ 60 := by
  obtain ⟨ws, pw⟩ := h.pw
  have := lineText_len (first := r.1 ++ r.2.1) h.cs
  rw [len_cat, (mark_len h.mr).1] at this
  have l := pw.len
  show (lineText (r.1 ++ r.2.1) r.2.2).length ≤ 60
  omega
theorem linesR_len {c0 : List (Str × Int)} {rs : List Rec} (h : RecsOk c0 rs) : ∀ l ∈ linesR "r" c0 rs, l.length ≤ 60 := fun l hl => by
  rcases List.mem_cons.mp hl with rfl | hl
  · have := lineText_len (first := "r") h.c0
    have e : ("r" : Str).length = 1 := by decide +kernel
    omega
  · obtain ⟨r, hr, rfl⟩ := List.mem_map.mp hl
    exact recText_len (h.rs r hr)
def zzz : Rec := (Str.ofString "zzz", Str.ofString "*", [(Str.ofString "a", 1)])
theorem zzz_ok : RecOk zzz ∧ recText zzz = Str.ofString "zzz* a=1" := by
  refine ⟨⟨⟨_, PW_of (p := "zzz") (by decide +kernel) (by decide +kernel)⟩, by show Str.ofString "*" ∈ _; decide +kernel, ?_⟩, by decide +kernel⟩
  exact ⟨by decide, by decide, fun c hc => by rw [show c = (Str.ofString "a", 1) by simpa [zzz] using hc]; exact nab.hx, fun c hc => by rw [show c = (Str.ofString "a", 1) by simpa [zzz] using hc]; decide, by simp [zzz]⟩
section
variable {start p0 : Str} {tops : List Int} {c0 : List (Str × Int)} {pre : List Rec} (B : BK start p0 tops c0 pre)
include B
theorem kb_none {subs : List Rec} (S : SubsOk start subs) (hp : ∀ k, k ≤ subs.length → prodR (prodF tops) (subs.take k) ≤ 16) : KBd (linesR "r" c0 (pre ++ subs), none) := by
  have l1 := S.le
  have l2 := B.pl
  refine ⟨?_, linesR_len (subs_rec B S), subs_ok B S hp, fun i h => nomatch h⟩
  show (lineText "r" c0 :: (pre ++ subs).map recText).length ≤ 5
  rw [List.length_cons, List.length_map, List.length_append]
  omega
theorem kb_some {subs : List Rec} {r : Rec} (S : SubsOk start subs) (hp : ∀ k, k ≤ subs.length → prodR (prodF tops) (subs.take k) ≤ 16) (S2 : SubsOk start (subs ++ [r])) (hx : 16 < prodR (prodF tops) (subs ++ [r])) : KBd (linesR "r" c0 (pre ++ (subs ++ [r])), some (((linesR "r" c0 (pre ++ (subs ++ [r]))).length : Int) - 1)) := by
  have l1 := S2.le
  rw [List.length_append, List.length_singleton] at l1
  have l2 := B.pl
  have ll : (linesR "r" c0 (pre ++ (subs ++ [r]))).length = pre.length + subs.length + 2 := by
    show (lineText "r" c0 :: (pre ++ (subs ++ [r])).map recText).length = _
    rw [List.length_cons, List.length_map, List.length_append, List.length_append, List.length_singleton]
    omega
  have ei : (((linesR "r" c0 (pre ++ (subs ++ [r]))).length : Int) - 1) = ((pre.length + subs.length + 1 : Nat) : Int) := by rw [ll]; omega
  rw [ei]
  have e1 : pre ++ (subs ++ [r]) = pre ++ subs ++ [r] := by rw [List.append_assoc]
  refine ⟨by show (linesR "r" c0 (pre ++ (subs ++ [r]))).length ≤ 5; omega, linesR_len (subs_rec B S2), ?_, fun i h => ?_⟩
  · show refusedS (textR "r" c0 (pre ++ (subs ++ [r]))) = _
    rw [e1]
    exact subs_err B (more := []) S hp S2 hx fun q hq => nomatch hq
  · cases h
    constructor
    · show refusedS (Txt.join "\n" (cutD (linesR "r" c0 (pre ++ (subs ++ [r]))) none (some ((pre.length + subs.length + 1 : Nat) : Int)))) = none
      rw [cutD_nat, e1]
      have : (linesR "r" c0 (pre ++ subs ++ [r])).take (pre.length + subs.length + 1) = linesR "r" c0 (pre ++ subs) := by
        show lineText "r" c0 :: ((pre ++ subs ++ [r]).map recText).take (pre.length + subs.length) = lineText "r" c0 :: (pre ++ subs).map recText
        rw [← List.map_take, ← List.length_append, List.take_left]
      rw [this]
      exact subs_ok B S hp
    · show refusedS (Txt.join "\n" (linesR "r" c0 (pre ++ (subs ++ [r])) ++ [Str.ofString "zzz* a=1"])) = _
      have : linesR "r" c0 (pre ++ (subs ++ [r])) ++ [Str.ofString "zzz* a=1"] = linesR "r" c0 (pre ++ subs ++ (r :: [zzz])) := by
        rw [← zzz_ok.2]
        unfold linesR
        simp
      rw [this]
      exact subs_err B (more := [zzz]) S hp S2 hx fun q hq => by rw [List.mem_singleton.mp hq]; exact zzz_ok.1
end
theorem first_lines {start : Str} {tops : List Int} (hs : start ∈ (["", "k_", "q_"] : List Str)) (h : TopsOk tops) : ∃ p0 c0 pre, BK start p0 tops c0 pre ∧ (if (!decide (start = "")) = true then (([("r " ++ (fieldsF "xy" ([1] : (List Int))))] : (List Str)) ++ ([(((cutS start none (some (-1 : Int))) ++ "* ") ++ (fieldsF "ab" tops))] : (List Str))) else ([("r " ++ (fieldsF "ab" tops))] : (List Str))) = linesR "r" c0 pre := by
  have er : ("r " : Str) = "r" ++ " " := by decide +kernel
  have ex : colsN "xy" [1] = [(Str.ofString "x", 1)] := by decide +kernel
  have lx : "r " ++ (fieldsF "xy" ([1] : (List Int))) = lineText "r" [(Str.ofString "x", 1)] := by
    rw [er, fields_line (colsN_ne nxy t1), ex]
  simp only [List.mem_cons, List.not_mem_nil, or_false] at hs
  rcases hs with rfl | rfl | rfl
  · refine ⟨_, _, _, bk_root h, ?_⟩
    rw [decide_eq_true rfl, if_neg (by decide), er, fields_line (colsN_ne nab h)]
    rfl
  · have ek : cutS (Str.ofString "k_") none (some (-1 : Int)) ++ "* " = ("k" ++ "*") ++ " " := by decide +kernel
    refine ⟨_, _, _, bk_link (start := "k_") (p0 := "k") h (by simp) (PW.one (LW_of (by decide +kernel))) (by decide +kernel) (by decide +kernel) (by decide +kernel), ?_⟩
    rw [decide_eq_false (by decide +kernel), if_pos (by decide), lx, ek, fields_line (colsN_ne nab h)]
    rfl
  · have ek : cutS (Str.ofString "q_") none (some (-1 : Int)) ++ "* " = ("q" ++ "*") ++ " " := by decide +kernel
    refine ⟨_, _, _, bk_link (start := "q_") (p0 := "q") h (by simp) (PW.one (LW_of (by decide +kernel))) (by decide +kernel) (by decide +kernel) (by decide +kernel), ?_⟩
    rw [decide_eq_false (by decide +kernel), if_pos (by decide), lx, ek, fields_line (colsN_ne nab h)]
    rfl

end
end Toy

set_option Elab.async false
set_option linter.all false
set_option maxRecDepth 100000
set_option maxHeartbeats 4000000
set_option pp.maxSteps 300
set_option pp.deepTerms false
namespace Toy
open PySem L2 Lf
section
variable {P : Program} {w : World} {K : PySem.W.Frag} {mg : Str → Option Value} {base : Heap} {a : Ad}

def W_l_kinds_bound_b1 (start : Str) (lines : (List Str)) (many2 : Int) (none : (Option Int)) (name : Str) (n5 : Nat) (P : ((List Str) × (Option Int)) → Nat → Prop) (nx : (List Str) → Int → Nat → Prop) : Prop :=
  ∀ d : (List Str), d = (["!", "?"] : (List Str)) → S_of n5 d (fun (mark3 : Str) n7 => S_take n7 2 (fun r3 n8 => (-(2 ^ 62) ≤ ((1 + r3) : Int)) ∧ (((1 + r3) : Int) < 2 ^ 62) ∧ ∃ Inv3 : Nat → (List Int) → Nat → Prop, Inv3 0 [] n8 ∧ (∀ (i : Nat) (turn2 : Int) (acc2 : (List Int)) (n9 : Nat), (rngI 0 (1 + r3))[i]? = some turn2 → Inv3 i acc2 n9 → S_take n9 3 (fun r4 n10 => (acc2.length < sizeLine) ∧ Inv3 (i + 1) (acc2 ++ [(1 + r4)]) n10)) ∧ (∀ (acc2 : (List Int)) (n9 : Nat), Inv3 (rngI 0 (1 + r3)).length acc2 n9 → ((start : Str).length + (name : Str).length ≤ sizeLine) ∧ (((start ++ name) : Str).length + (mark3 : Str).length ≤ sizeLine) ∧ ((((start ++ name) ++ mark3) : Str).length + (" " : Str).length ≤ sizeLine) ∧ (pre_ff "fg" acc2) ∧ (((((start ++ name) ++ mark3) ++ " ") : Str).length + ((fieldsF "fg" acc2) : Str).length ≤ sizeLine) ∧ (lines.length < sizeLine) ∧ ∀ lines2 : (List Str), lines2 = (lines ++ [((((start ++ name) ++ mark3) ++ " ") ++ (fieldsF "fg" acc2))]) → (pre_pf acc2) ∧ (CMul many2 ((prodF acc2) + (if (decide (mark3 = "?")) then (1 : Int) else 0))) ∧ ∀ many3 : Int, many3 = (many2 * ((prodF acc2) + (if (decide (mark3 = "?")) then (1 : Int) else 0))) → (if (decide (16 < many3)) = true then (P (lines2, (some ((lines2.length : Int) - 1))) n9) else (nx lines2 many3 n9)))))
def W_l_kinds_bound_k1 (lines : (List Str)) (none : (Option Int)) (n5 : Nat) (P : ((List Str) × (Option Int)) → Nat → Prop) : Prop :=
  P (lines, none) n5
def W_l_kinds_bound (n : Nat) (start : Str) (P : ((List Str) × (Option Int)) → Nat → Prop) : Prop :=
  S_take n 2 (fun r n2 => (-(2 ^ 62) ≤ ((1 + r) : Int)) ∧ (((1 + r) : Int) < 2 ^ 62) ∧ ∃ Inv : Nat → (List Int) → Nat → Prop, Inv 0 [] n2 ∧ (∀ (i : Nat) (turn : Int) (acc : (List Int)) (n3 : Nat), (rngI 0 (1 + r))[i]? = some turn → Inv i acc n3 → S_take n3 3 (fun r2 n4 => (acc.length < sizeLine) ∧ Inv (i + 1) (acc ++ [(1 + r2)]) n4)) ∧ (∀ (acc : (List Int)) (n3 : Nat), Inv (rngI 0 (1 + r)).length acc n3 → (pre_ff "xy" ([1] : (List Int))) ∧ (("r " : Str).length + ((fieldsF "xy" ([1] : (List Int))) : Str).length ≤ sizeLine) ∧ (pre_pf acc) ∧ ∀ many : Int, many = (prodF acc) → ((!decide (start = "")) = true → (start : Str).length ≤ sizeLine) ∧ ((!decide (start = "")) = true → ((cutS start none (some (-1 : Int))) : Str).length + ("* " : Str).length ≤ sizeLine) ∧ ((!decide (start = "")) = true → pre_ff "ab" acc) ∧ ((!decide (start = "")) = true → (((cutS start none (some (-1 : Int))) ++ "* ") : Str).length + ((fieldsF "ab" acc) : Str).length ≤ sizeLine) ∧ ((!decide (start = "")) = true → ([("r " ++ (fieldsF "xy" ([1] : (List Int))))] : (List Str)).length + ([(((cutS start none (some (-1 : Int))) ++ "* ") ++ (fieldsF "ab" acc))] : (List Str)).length ≤ sizeLine) ∧ ((!decide (start = "")) = false → pre_ff "ab" acc) ∧ ((!decide (start = "")) = false → ("r " : Str).length + ((fieldsF "ab" acc) : Str).length ≤ sizeLine) ∧ ∃ Inv2 : Nat → (List Str) → Int → Nat → Prop, Inv2 0 (if (!decide (start = "")) = true then (([("r " ++ (fieldsF "xy" ([1] : (List Int))))] : (List Str)) ++ ([(((cutS start none (some (-1 : Int))) ++ "* ") ++ (fieldsF "ab" acc))] : (List Str))) else ([("r " ++ (fieldsF "ab" acc))] : (List Str))) many n3 ∧ (∀ (i : Nat) (name : Str) (lines : (List Str)) (many2 : Int) (n5 : Nat), (["c", "d", "e"] : (List Str))[i]? = some name → Inv2 i lines many2 n5 → W_l_kinds_bound_b1 start lines many2 none name n5 P (Inv2 (i + 1))) ∧ (∀ (lines : (List Str)) (many2 : Int) (n5 : Nat), Inv2 (["c", "d", "e"] : (List Str)).length lines many2 n5 → W_l_kinds_bound_k1 lines none n5 P)))
theorem tops_of {acc : List Int} {r : Int} (h0 : 0 ≤ r) (h1 : r < 2) (hl : acc.length = (rngI 0 (1 + r)).length) (h : ∀ t ∈ acc, 1 ≤ t ∧ t ≤ 3) : TopsOk acc := by
  rw [rngI_len] at hl
  exact ⟨by omega, by omega, h⟩
theorem prodR_snoc {m : Int} {subs : List Rec} {r : Rec} : prodR m (subs ++ [r]) = prodR m subs * (colsP r.2.2 + (if (decide (r.2.1 = "?")) then (1 : Int) else 0)) := by
  unfold prodR
  rw [List.foldl_append]
  rfl
theorem prodR_lo {m : Int} (h : 0 ≤ m) : ∀ {subs : List Rec}, (∀ r ∈ subs, 0 ≤ colsP r.2.2) → 0 ≤ prodR m subs := fun {subs} hs => by
  induction subs generalizing m with
  | nil => exact h
  | cons r subs ih =>
    refine ih (m := m * (colsP r.2.2 + (if (decide (r.2.1 = "?")) then (1 : Int) else 0))) (Int.mul_nonneg h ?_) fun q hq => hs q (List.mem_cons_of_mem _ hq)
    have := hs r (List.mem_cons_self ..)
    split <;> omega
theorem dW_l_kinds_bound {n : Nat} {start : Str} {P : (List Str × Option Int) → Nat → Prop} (h : S_kb n start P) : W_l_kinds_bound n start P := by
  obtain ⟨hn, hs, k⟩ := h
  have sl := sizeLine_eq
  have sl3 : start.length ≤ 2 := by
    have : ∀ z ∈ (["", "k_", "q_"] : List Str), z.length ≤ 2 := by decide +kernel
    exact this _ hs
  refine ⟨by omega, by decide, by decide, fun r r0 r1 => ⟨by omega, by omega, fun i acc m => acc.length = i ∧ (∀ t ∈ acc, 1 ≤ t ∧ t ≤ 3) ∧ m = n + 1 + i, ⟨rfl, fun t ht => (nomatch ht), rfl⟩, ?_, ?_⟩⟩
  · rintro i turn acc m hi ⟨h1, h2, h3⟩
    have il := (List.getElem?_eq_some_iff.mp hi).1
    rw [rngI_len] at il
    refine ⟨by omega, by decide, by decide, fun r2 q0 q1 => ⟨sz_lt (by omega), by rw [List.length_append, h1]; rfl, fun t ht => ?_, by omega⟩⟩
    rcases List.mem_append.mp ht with ht | ht
    · exact h2 t ht
    · rw [List.mem_singleton.mp ht]; omega
  · rintro acc m ⟨h1, h2, h3⟩
    have T := tops_of r0 r1 h1 h2
    rw [rngI_len] at h1 h3
    have f1 := fields_len nxy t1
    have f2 := fields_len nab T
    have lr : ("r " : Str).length = 2 := by decide +kernel
    have ls : ("* " : Str).length = 2 := by decide +kernel
    have lsp : (" " : Str).length = 1 := by decide +kernel
    have cl := cutS_len start none (some (-1 : Int))
    have pab : pre_ff "ab" acc := ⟨by decide +kernel, by decide +kernel, T.tp⟩
    refine ⟨⟨by decide +kernel, by decide +kernel, t1.tp⟩, by omega, ⟨T.hi, T.tp⟩, ?_⟩
    rintro _ rfl
    refine ⟨fun _ => by omega, fun _ => by omega, fun _ => pab, fun _ => by rw [len_cat]; omega, fun _ => sz_of (by show 1 + 1 ≤ 100000; decide), fun _ => pab, fun _ => by omega, ?_⟩
    obtain ⟨p0, c0, pre, B, el⟩ := first_lines hs T
    rw [el]
    refine ⟨fun i lines many n5 => ∃ subs, SubsOk start subs ∧ subs.length = i ∧ lines = linesR "r" c0 (pre ++ subs) ∧ many = prodR (prodF acc) subs ∧ (∀ k, k ≤ subs.length → prodR (prodF acc) (subs.take k) ≤ 16) ∧ n5 ≤ m + 4 * i, ⟨[], ⟨by decide, rfl, fun r hr => (nomatch hr)⟩, rfl, by rw [List.append_nil], rfl, fun k hk => ?_, by omega⟩, ?_, ?_⟩
    · rw [List.take_nil]
      exact (prodF_16 T).1
    · rintro i name lines many2 n5 hi ⟨subs, S, hsl, rfl, rfl, hp, hn5⟩
      have il : i < 3 := (List.getElem?_eq_some_iff.mp hi).1
      have nl : name.length = 1 := by
        have : ∀ z ∈ (["c", "d", "e"] : List Str), z.length = 1 := by decide +kernel
        exact this _ (List.mem_of_getElem? hi)
      rintro _ rfl
      refine ⟨by omega, by simp, by simp, fun mark hm => ?_⟩
      have ml : mark.length = 1 := by
        have : ∀ z ∈ (["!", "?"] : List Str), z.length = 1 := by decide +kernel
        exact this _ hm
      refine ⟨by omega, by decide, by decide, fun r3 q0 q1 => ⟨by omega, by omega, fun j acc2 m2 => acc2.length = j ∧ (∀ t ∈ acc2, 1 ≤ t ∧ t ≤ 3) ∧ m2 = n5 + 1 + 1 + j, ⟨rfl, fun t ht => (nomatch ht), rfl⟩, ?_, ?_⟩⟩
      · rintro j turn acc2 m2 hj ⟨g1, g2, g3⟩
        have jl := (List.getElem?_eq_some_iff.mp hj).1
        rw [rngI_len] at jl
        refine ⟨by omega, by decide, by decide, fun r2 q0 q1 => ⟨sz_lt (by omega), by rw [List.length_append, g1]; rfl, fun t ht => ?_, by omega⟩⟩
        rcases List.mem_append.mp ht with ht | ht
        · exact g2 t ht
        · rw [List.mem_singleton.mp ht]; omega
      · rintro acc2 m2 ⟨g1, g2, g3⟩
        have T2 := tops_of q0 q1 g1 g2
        rw [rngI_len] at g1 g3
        have f3 := fields_len nfg T2
        have l1 := S.le
        have l2 := B.pl
        have ll : (linesR "r" c0 (pre ++ subs)).length = pre.length + subs.length + 1 := by
          show (lineText "r" c0 :: (pre ++ subs).map recText).length = _
          rw [List.length_cons, List.length_map, List.length_append]
        refine ⟨by omega, by rw [len_cat]; omega, by rw [len_cat, len_cat]; omega, ⟨by decide +kernel, by decide +kernel, T2.tp⟩, by rw [len_cat, len_cat, len_cat]; omega, by omega, ?_⟩
        rintro lines2 hl2
        have cN := colsN_ok nfg T2
        have el2 : lines2 = linesR "r" c0 (pre ++ (subs ++ [(start ++ name, mark, colsN "fg" acc2)])) := by
          rw [hl2, fields_line (colsN_ne nfg T2)]
          unfold linesR
          simp [recText]
        have S2 : SubsOk start (subs ++ [(start ++ name, mark, colsN "fg" acc2)]) := by
          refine ⟨by rw [List.length_append, List.length_singleton]; omega, ?_, fun q hq => ?_⟩
          · rw [List.map_append, S.nm, List.length_append, List.length_singleton, List.take_add_one, hsl, show cde[i]? = some name from hi, List.map_append]
            rfl
          · rcases List.mem_append.mp hq with hq | hq
            · exact S.ok q hq
            · rw [List.mem_singleton.mp hq]
              exact ⟨decide_eq_true hm, acc2, T2, rfl⟩
        have p16 := prodF_16 T2
        have pm : prodR (prodF acc) subs ≤ 16 := by
          have := hp subs.length (Nat.le_refl _)
          rw [List.take_length] at this
          exact this
        have plo : 0 ≤ prodR (prodF acc) subs := prodR_lo (by have := prodF_16 T; omega) fun q hq => by
          obtain ⟨_, mr, t2, e⟩ := S.ok q hq
          rw [e, (colsN_ok nfg t2).2.1]
          have := prodF_16 t2
          omega
        refine ⟨⟨T2.hi, T2.tp⟩, .inl ⟨by omega, by omega⟩, ?_⟩
        rintro many3 hm3
        have em : many3 = prodR (prodF acc) (subs ++ [(start ++ name, mark, colsN "fg" acc2)]) := by
          rw [prodR_snoc, hm3, ← cN.2.1]
        by_cases c : 16 < many3
        · rw [decide_eq_true c]
          refine iteT ?_
          rw [el2]
          exact k _ _ (kb_some B S hp S2 (by rw [← em]; exact c)) (by omega)
        · rw [decide_eq_false c]
          refine iteF ⟨_, S2, by rw [List.length_append, hsl]; rfl, el2, em, fun j hj => ?_, by omega⟩
          rw [List.length_append, List.length_singleton] at hj
          by_cases cj : j ≤ subs.length
          · rw [List.take_append, show j - subs.length = 0 by omega, List.take_zero, List.append_nil]
            exact hp j cj
          · rw [List.take_of_length_le (by rw [List.length_append, List.length_singleton]; omega), ← em]
            omega
    · rintro lines many2 n5 ⟨subs, S, hsl, rfl, rfl, hp, hn5⟩
      have h3 : subs.length = 3 := hsl
      exact k _ _ (kb_none B S hp) (by have hn5 : n5 ≤ m + 4 * 3 := hn5; omega)
def sp_l_kinds_bound (K : PySem.W.Frag) : Sp := spS SMB K (fun (x : Str) => [D.str x]) (eP2 (eL D.str) (eO D.int)) (fun n (x : Str) P => S_kb n x P)
theorem sc_l_kinds_bound : FnScope ["_law_bag_here", "_law_start", "_law_tops", "_law_turn", "_law_lines", "_law_many", "_law_first", "_law_name", "_law_mark", "_law_more"] ["_law_bag_here", "_law_start"] (defScope s_l_kinds_bound) := ⟨rfl, rfl, rfl, by decide +kernel, rfl, by decide +kernel, by decide +kernel⟩
theorem ok_l_kinds_bound (T : Txt K mg a) : FnOk P w K mg base CX0 4 a.f_l_kinds_bound a.d_l_kinds_bound ["_law_bag_here", "_law_start"] (sp_l_kinds_bound K) := by
  refine T.F_l_kinds_bound.ok sc_l_kinds_bound (fun vs H Q E h => ?_) (fun cdv A outer s H vs Q E hr h => ?_)
  · obtain ⟨M0, st, Y, n, x, us, P, rfl, w0, ys, hS, hx, _⟩ := h
    exact congrArg Nat.succ hx.len
  · obtain ⟨M0, st, Y, n, x, us, P, rfl, w0, ys, hS, hx, hS0, kk⟩ := h
    obtain ⟨start, ex⟩ : ∃ z, z = x := ⟨_, rfl⟩
    subst ex
    have hx : rDs K (Fx M0 H) [D.str start] us := hx
    obtain ⟨v, _, rfl, h2, rfl⟩ := hx
    have g : Gd M0 [] Y H H := Gd.start w0 ys
    cases (show v = (V.str start) from h2)
    have hw := dW_l_kinds_bound hS0
    unfold W_l_kinds_bound at hw
    refine ⟨_, (pss_cons (ps_setLc (i := 2) (own := [("_law_turn", 3)]) (g := gName 3) (tt := tYes) (te := (tOp rAddI (tC (.int 1)) (tCall (sp_l_take K) [] E0 (tCons (tVar 0) (tCons (tC (.int 3)) tNil))))) rfl sc_l_kinds_bound.nd rfl rfl (sw_true rfl rfl rfl (by decide +kernel)) (pi_range1 (by rfl) T.b_range (pa_cons (pe_op op_add pe_int (pe_call (ok_l_take T) (hr.mono (by decide)) rfl T.m_l_take T.k_l_take T.a_l_take .nil pass0 (pa_cons (pv 0) (pa_cons pe_int pa_nil)))) pa_nil)) (blkOk_by (own := [("_law_turn", 3)]) (N := ["_law_bag_here", "_law_start", "_law_tops", "_law_turn", "_law_lines", "_law_many", "_law_first", "_law_name", "_law_mark", "_law_more"]) (sc := defScope s_l_kinds_bound) (by decide +kernel)) (fun _ _ _ _ _ => (pg_name (i := 3) sc_l_kinds_bound.nd rfl (.inl rfl))) (fun _ _ _ _ _ => pts_nil) (fun _ _ _ _ _ => (pe_op op_add pe_int (pe_call (ok_l_take T) (hr.mono (by decide)) rfl T.m_l_take T.k_l_take T.a_l_take .nil pass0 (pa_cons (pv 0) (pa_cons pe_int pa_nil))))))
      (pss_cons (ps_par3 (i := 4) (j := 5) (l := 6) (by rfl) sc_l_kinds_bound.nd rfl rfl rfl (by decide) (by decide) (by decide) rfl rfl rfl (pa_cons (pe_lstS (pa_cons (pe_op op_add_str pe_str (pe_call (ok_l_fields T) (hr.mono (by decide)) rfl T.m_l_fields T.k_l_fields T.a_l_fields .nil pass0 (pa_cons pe_str (pa_cons (pe_lstS (pa_cons pe_int pa_nil)) pa_nil)))) pa_nil)) (pa_cons (pe_call (ok_l_product T) (hr.mono (by decide)) rfl T.m_l_product T.k_l_product T.a_l_product .nil pass0 (pa_cons (pv 2) pa_nil)) (pa_cons pe_non pa_nil))) (by rfl))
      (pss_cons (ps_set (i := 4) sc_l_kinds_bound.nd rfl (.inl rfl) (pe_ifExp (pt_cmpR op_ne (pv 1) pe_str (nomark _)) (pe_op op_catS (pv 4) (pe_lstS (pa_cons (pe_op op_add_str (pe_op op_add_str (pe_slice sl_str (pv 1) po_none (po_some (pe_un un_neg pe_int))) pe_str) (pe_call (ok_l_fields T) (hr.mono (by decide)) rfl T.m_l_fields T.k_l_fields T.a_l_fields .nil pass0 (pa_cons pe_str (pa_cons (pv 2) pa_nil)))) pa_nil))) (pe_lstS (pa_cons (pe_op op_add_str pe_str (pe_call (ok_l_fields T) (hr.mono (by decide)) rfl T.m_l_fields T.k_l_fields T.a_l_fields .nil pass0 (pa_cons pe_str (pa_cons (pv 2) pa_nil)))) pa_nil))))
      (pss_cons (ps_for PassesOwn.never rfl (pi_tup (pe_tupS (pa_cons pe_str (pa_cons pe_str (pa_cons pe_str pa_nil))))) (pg_name (i := 7) sc_l_kinds_bound.nd rfl (.inl rfl))
      (pss_cons (ps_par (i := 8) (j := 9) (by rfl) sc_l_kinds_bound.nd rfl rfl (by decide) rfl rfl (pa_cons (pe_call (ok_l_of T) (hr.mono (by decide)) rfl T.m_l_of T.k_l_of T.a_l_of .nil pass0 (pa_cons (pv 0) (pa_cons (pe_lstS (pa_cons pe_str (pa_cons pe_str pa_nil))) pa_nil))) (pa_cons (pe_lc (own := [("_law_turn", 3)]) (g := gName 3) (tt := tYes) (te := (tOp rAddI (tC (.int 1)) (tCall (sp_l_take K) [] E0 (tCons (tVar 0) (tCons (tC (.int 3)) tNil))))) rfl sc_l_kinds_bound.nd (pi_range1 (by rfl) T.b_range (pa_cons (pe_op op_add pe_int (pe_call (ok_l_take T) (hr.mono (by decide)) rfl T.m_l_take T.k_l_take T.a_l_take .nil pass0 (pa_cons (pv 0) (pa_cons pe_int pa_nil)))) pa_nil)) (blkOk_by (own := [("_law_turn", 3)]) (N := ["_law_bag_here", "_law_start", "_law_tops", "_law_turn", "_law_lines", "_law_many", "_law_first", "_law_name", "_law_mark", "_law_more"]) (sc := defScope s_l_kinds_bound) (by decide +kernel)) (fun _ _ _ _ _ => (pg_name (i := 3) sc_l_kinds_bound.nd rfl (.inl rfl))) (fun _ _ _ _ _ => pts_nil) (fun _ _ _ _ _ => (pe_op op_add pe_int (pe_call (ok_l_take T) (hr.mono (by decide)) rfl T.m_l_take T.k_l_take T.a_l_take .nil pass0 (pa_cons (pv 0) (pa_cons pe_int pa_nil)))))) pa_nil)) (by rfl))
      (pss_cons (ps_expr (pe_bm PySem.F.plainAttrs_list PySem.F.slot_list_append PySem.F.type_list_append mt_append (pv 4) (pa_cons (pe_op op_add_str (pe_op op_add_str (pe_op op_add_str (pe_op op_add_str (pv 1) (pv 7)) (pv 8)) pe_str) (pe_call (ok_l_fields T) (hr.mono (by decide)) rfl T.m_l_fields T.k_l_fields T.a_l_fields .nil pass0 (pa_cons pe_str (pa_cons (pv 9) pa_nil)))) pa_nil)))
      (pss_cons (ps_set (i := 5) sc_l_kinds_bound.nd rfl (.inl rfl) (pe_op op_mul (pv 5) (pe_op op_add (pe_call (ok_l_product T) (hr.mono (by decide)) rfl T.m_l_product T.k_l_product T.a_l_product .nil pass0 (pa_cons (pv 9) pa_nil)) (pe_callTy call_int1 (by rfl) T.b_int (by decide +kernel) (pa_cons (pe_cmpR op_eq (pv 8) pe_str (nomark _)) pa_nil)))))
      (pss_cons (ps_if (pt_cmpR op_gt (pv 5) pe_int (nomark _)) (pss_cons (ps_ret (pe_tupS (pa_cons (pv 4) (pa_cons (pe_op op_sub (pe_callB call_len_seq (by rfl) T.b_len PySem.boot_len (pa_cons (pv 4) pa_nil)) pe_int) pa_nil))))
      pss_nil) pss_nil)
      pss_nil)))))
      (pss_cons (ps_ret (pe_tupS (pa_cons (pv 4) (pa_cons (pv 6) pa_nil))))
      pss_nil))))), ?_⟩
    refine st_set ?_
    refine x_lc ?_
    refine x_rng1 ?_
    refine x_cons ?_
    refine x_op ?_
    refine EV.go (K := K) (d := (.im (D.int 1))) ev_int g.wd fun v2 H2 wd s2 h3 => ?_
    have g2 := g.same s2
    have hS := hS.same s2
    cases (show v2 = (V.int 1) from h3)
    refine x_call ?_
    refine x_cons ?_
    refine ⟨_, rfl, ?_⟩
    refine x_cons ?_
    refine EV.go (K := K) (d := (.im (D.int 2))) ev_int g2.wd fun v4 H4 wd3 s4 h5 => ?_
    have g3 := g2.same s4
    have hS2 := hS.same s4
    cases (show v4 = (V.int 2) from h5)
    refine x_nil ?_
    refine ⟨mxM M0 [], st, Y, n, 2, _, _, rfl, g3.wd, fun y hy => .inl (g3.ys y hy), hS2, ⟨_, _, rfl, rfl, rfl⟩, hw, fun r v5 n2 H5 hw wd4 b hS3 h6 => ?_⟩
    have g4 := g3.call wd4 b
    have l := Gd.lx_call g3 b
    cases (show v5 = (V.int r) from h6)
    refine opd_go (K := K) (d := (.im (D.int 1))) (e := (.im (D.int r))) (f := .im (D.int (1 + r))) od_add g4.wd rfl rfl fun v6 H6 wd5 s5 h7 => ?_
    have g5 := g4.same s5
    have hS4 := hS3.same s5
    cases (show v6 = (V.int (1 + r)) from h7)
    refine x_nil ?_
    obtain ⟨c, c2, hw⟩ := hw
    refine ⟨(1 + r), rfl, c, c2, ?_⟩
    have wk := wk_range1 (K := K) (M := mxM M0 []) (H := H6) (n := (1 + r))
    refine fun p np => ?_
    have s6 := Same.new (o := .lst []) np
    have ex := Gd.ex_new (M0 := M0) (Ls := []) s6 np
    have g6 := g5.new s6 np (upd_same (H := H6) (o := .lst []))
    have hS5 := hS4.same s6
    have h8 : rV K (mxM M0 [p]) (upd H6 p (.lst [])) (.mu p (List.map D.int ([] : (List Int)))) (V.ref p) := ⟨rfl, [], (upd_same (H := H6) (o := .lst [])), rDs.mono ex.lx _ _ (show rDs K _ [] [] from rfl)⟩
    obtain ⟨Inv, hI2, hI3, hI4⟩ := hw
    refine lc_itx wk (fun i H' => ∃ (acc : (List Int)) (n3 : Nat), Gd M0 [p] Y H H' ∧ Lx (mxM M0 [p]) (mxM M0 [p]) (upd H6 p (.lst [])) H' ∧ rV K (mxM M0 [p]) H' (.mu p (List.map D.int acc)) (V.ref p) ∧ SMB H' st Y n3 ∧ Inv i acc n3) ⟨[], n2, g6, Lx.refl, h8, hS5, hI2⟩ (fun i H' _ ⟨_, _, _, hl, _⟩ => ⟨_, ex.lx.trans hl⟩) ?_ ?_
    · rintro i x2 H7 H8 hi ⟨acc, n3, g7, l2, h9, hS6, hI⟩ yd
      obtain ⟨turn, hy, s7, hr2⟩ := yd_map yd
      have hw := hI3 i turn acc n3 hy hI
      have hr2 := hr2 _ g7.wd (ex.lx.trans l2)
      have g8 := g7.same s7
      have h10 := rV.same s7 h9
      have hS7 := hS6.same s7
      cases (show x2 = (V.int turn) from hr2)
      refine ⟨rfl, ?_⟩
      refine x_yes ?_
      refine x_op ?_
      refine EV.go (K := K) (d := (.im (D.int 1))) ev_int g8.wd fun v7 H9 wd6 s8 h11 => ?_
      have g9 := g8.same s8
      have h12 := rV.same s8 h10
      have hS8 := hS7.same s8
      cases (show v7 = (V.int 1) from h11)
      refine x_call ?_
      refine x_cons ?_
      refine ⟨_, rfl, ?_⟩
      refine x_cons ?_
      refine EV.go (K := K) (d := (.im (D.int 3))) ev_int g9.wd fun v9 H11 wd8 s10 h14 => ?_
      have g10 := g9.same s10
      have h15 := rV.same s10 h12
      have hS9 := hS8.same s10
      cases (show v9 = (V.int 3) from h14)
      refine x_nil ?_
      refine ⟨mxM M0 [p], st, Y, n3, 3, _, _, rfl, g10.wd, fun y hy => .inl (g10.ys y hy), hS9, ⟨_, _, rfl, rfl, rfl⟩, hw, fun r2 v10 n4 H12 hw wd9 b2 hS10 h16 => ?_⟩
      have g11 := g10.call wd9 b2
      have l3 := Gd.lx_call g10 b2
      have h17 := mu_call h15 rfl g10 (by simp) b2
      cases (show v10 = (V.int r2) from h16)
      refine opd_go (K := K) (d := (.im (D.int 1))) (e := (.im (D.int r2))) (f := .im (D.int (1 + r2))) od_add g11.wd rfl rfl fun v11 H13 wd10 s11 h18 => ?_
      have g12 := g11.same s11
      have h19 := rV.same s11 h17
      have hS11 := hS10.same s11
      cases (show v11 = (V.int (1 + r2)) from h18)
      obtain ⟨c3, hw⟩ := hw
      refine x_push (N := (fun i H' => ∃ (acc : (List Int)) (n3 : Nat), Gd M0 [p] Y H H' ∧ Lx (mxM M0 [p]) (mxM M0 [p]) (upd H6 p (.lst [])) H' ∧ rV K (mxM M0 [p]) H' (.mu p (List.map D.int acc)) (V.ref p) ∧ SMB H' st Y n3 ∧ Inv i acc n3) (i + 1)) (en := D.int) (x := (1 + r2)) h19 rfl (by simp) c3 fun H5_ ⟨vs5_, eu5_⟩ h5_ => ?_
      subst eu5_
      have g13 : Gd M0 [p] Y H (upd H13 p (.lst vs5_)) := g12.upd (by simp)
      have l4 : Lx (mxM M0 [p]) (mxM M0 [p]) H13 (upd H13 p (.lst vs5_)) := Gd.lx_upd (by simp)
      have hS12 : SMB (upd H13 p (.lst vs5_)) st Y n4 := hS11.updL (g12.noY (by simp))
      exact ⟨_, _, g13, ((((((l2.trans (Lx.same s7)).trans (Lx.same s8)).trans (Lx.same s10)).trans l3).trans (Lx.same s11)).trans l4), h5_, hS12, hw⟩
    rintro H14 ⟨acc, n3, g14, l5, h20, hS13, hI5⟩
    have hw := hI4 acc n3 hI5
    have h21 : rV K (mxM M0 []) H14 (.im ((eL D.int) acc)) (V.ref p) := mu_frzp h20 g14 (i := 0) rfl [] (by decide) rfl
    have g15 := g14.pick [] (Ls' := []) (by decide) rfl
    have l6 : Lx (mxM M0 [p]) (mxM M0 []) H14 H14 := Gd.lx_pick [] rfl
    try dsimp only [gName]
    refine st_norm (σ' := [some (V.ref st), some (V.str start), some (V.ref p), none, none, none, none, none, none, none]) rfl ?_
    refine st_par3 ?_
    refine x_cons ?_
    obtain ⟨c4, c5, hw⟩ := hw
    refine EVN.go (K := K) (evn_lst (ds := [D.str ("r " ++ (fieldsF "xy" ([1] : (List Int))))]) (eva_cons (ev_op ev_str (ev_call (eva_cons ev_str (eva_cons (ev_lst (ds := [D.int 1]) (eva_cons ev_int eva_nil) (Nat.le_of_ble_eq_true rfl)) eva_nil)) (cd_l_fields "xy" ([1] : (List Int)) c4)) (od_addS c5)) eva_nil) (Nat.le_of_ble_eq_true rfl)) g15.wd fun p2 H15 H16 wd11 s12 np2 s13 vs2 hp2 hv => ?_
    have g16 := g15.same s12
    have hS14 := hS13.same s12
    have ex2 := Gd.ex_new (M0 := M0) (Ls := []) s13 np2
    have g17 := g16.new s13 np2 hp2
    have hS15 := hS14.same s13
    have h22 : rV K (mxM M0 [p2]) H16 (.mu p2 (List.map D.str ([("r " ++ (fieldsF "xy" ([1] : (List Int))))] : (List Str)))) (V.ref p2) := ⟨rfl, vs2, hp2, rDs.mono ex2.lx _ _ hv⟩
    refine x_cons ?_
    have h23 : rV K (mxM M0 [p2]) H16 (.im ((eL D.int) acc)) (V.ref p) := ((h21.same s12).ex ex2)
    obtain ⟨c6, hw⟩ := hw
    refine EV.goA (K := K) (en := D.int) (x0 := (prodF acc)) (ev_call (eva_cons (ev_var (d := (.im ((eL D.int) acc))) (i := 2) rfl h23) eva_nil) (cd_l_product acc c6)) g17.wd fun many e v12 H17 wd12 s14 h24 => ?_
    have hw := hw many e
    have g18 := g17.same s14
    have h25 := rV.same s14 h22
    have hS16 := hS15.same s14
    cases (show v12 = (V.int many) from h24)
    refine x_cons ?_
    refine EV.go (K := K) (d := (.im ((eO D.int) none))) ev_non g18.wd fun v13 H18 wd13 s15 h26 => ?_
    have g19 := g18.same s15
    have h27 := rV.same s15 h25
    have hS17 := hS16.same s15
    refine x_nil ?_
    refine ⟨_, _, _, rfl, ?_⟩
    try dsimp only [gName]
    refine st_norm (σ' := [some (V.ref st), some (V.str start), some (V.ref p), none, some (V.ref p2), some (V.int many), some v13, none, none, none]) rfl ?_
    refine st_set ?_
    have h28 : rV K (mxM M0 [p2]) H18 (.im ((eL D.int) acc)) (V.ref p) := ((h23.same s14).same s15)
    obtain ⟨c7, c8, c9, c10, c11, c12, c13, hw⟩ := hw
    refine EVN.go (K := K) (evn_if (en := D.str) (x := (([("r " ++ (fieldsF "xy" ([1] : (List Int))))] : (List Str)) ++ ([(((cutS start none (some (-1 : Int))) ++ "* ") ++ (fieldsF "ab" acc))] : (List Str)))) (y := ([("r " ++ (fieldsF "ab" acc))] : (List Str))) (evt_test (K := K) (ev_op (ev_vs (i := 1) rfl) ev_str od_neS)) (fun hb => (evn_catm (en := D.str) (xs := ([("r " ++ (fieldsF "xy" ([1] : (List Int))))] : (List Str))) (ys := ([(((cutS start none (some (-1 : Int))) ++ "* ") ++ (fieldsF "ab" acc))] : (List Str))) (ev_var (d := (.mu p2 (List.map D.str ([("r " ++ (fieldsF "xy" ([1] : (List Int))))] : (List Str))))) (i := 4) rfl h27) (ev_lst (ds := [D.str (((cutS start none (some (-1 : Int))) ++ "* ") ++ (fieldsF "ab" acc))]) (eva_cons (ev_op (ev_op (ev_slS (c7 hb) (ev_vs (i := 1) rfl) evo_none (evo_some (K := K) (ev_un ev_int ud_neg))) ev_str (od_addS (c8 hb))) (ev_call (eva_cons ev_str (eva_cons (ev_var (d := (.im ((eL D.int) acc))) (i := 2) rfl h28) eva_nil)) (cd_l_fields "ab" acc (c9 hb))) (od_addS (c10 hb))) eva_nil) (Nat.le_of_ble_eq_true rfl)) LsOf.mu LsOf.im (c11 hb))) fun hb2 => (evn_lst (ds := [D.str ("r " ++ (fieldsF "ab" acc))]) (eva_cons (ev_op ev_str (ev_call (eva_cons ev_str (eva_cons (ev_var (d := (.im ((eL D.int) acc))) (i := 2) rfl h28) eva_nil)) (cd_l_fields "ab" acc (c12 hb2))) (od_addS (c13 hb2))) eva_nil) (Nat.le_of_ble_eq_true rfl))) g19.wd fun p3 H19 H20 wd14 s16 np3 s17 vs3 hp3 hv2 => ?_
    have g20 := g19.same s16
    have h29 := rV.same s16 h27
    have hS18 := hS17.same s16
    have ex3 := Gd.ex_new (M0 := M0) (Ls := [p2]) s17 np3
    have g21 := g20.new s17 np3 hp3
    have h30 := rV.ex ex3 h29
    have hS19 := hS18.same s17
    have h31 : rV K (mxM M0 [p3, p2]) H20 (.mu p3 (List.map D.str (if (!decide (start = "")) = true then (([("r " ++ (fieldsF "xy" ([1] : (List Int))))] : (List Str)) ++ ([(((cutS start none (some (-1 : Int))) ++ "* ") ++ (fieldsF "ab" acc))] : (List Str))) else ([("r " ++ (fieldsF "ab" acc))] : (List Str))))) (V.ref p3) := ⟨rfl, vs3, hp3, rDs.mono ex3.lx _ _ hv2⟩
    try dsimp only [gName]
    refine st_norm (σ' := [some (V.ref st), some (V.str start), some (V.ref p), none, some (V.ref p3), some (V.int many), some v13, none, none, none]) rfl ?_
    have g22 := g21.pick [0] (Ls' := [p3]) (by decide) rfl
    have l7 : Lx (mxM M0 [p3, p2]) (mxM M0 [p3]) H20 H20 := Gd.lx_pick [0] rfl
    have h32 := mu_pick h31 [0] (Ls' := [p3]) rfl
    refine st_for ?_
    refine EVI.gom (K := K) (en := D.str) (xs := (["c", "d", "e"] : (List Str))) (evi_tup (es := List.map D.str (["c", "d", "e"] : (List Str))) (ev_tup (ds := [D.str "c", D.str "d", D.str "e"]) (eva_cons ev_str (eva_cons ev_str (eva_cons ev_str eva_nil))) (Nat.le_of_ble_eq_true rfl))) g22.wd fun J H21 wd15 s18 wk2 => ?_
    have g23 := g22.same s18
    have h33 := rV.same s18 h32
    have hS20 := hS19.same s18
    obtain ⟨Inv2, hI6, hI7, hI8⟩ := hw
    refine st_forit wk2 (fun i σ' H' => ∃ (lines : (List Str)) (many2 : Int) (o : Option V) (o2 : Option V) (o3 : Option V) (n5 : Nat), σ' = [some (V.ref st), some (V.str start), some (V.ref p), none, some (V.ref p3), some (V.int many2), some v13, o, o2, o3] ∧ Gd M0 [p3] Y H H' ∧ Lx (mxM M0 [p3]) (mxM M0 [p3]) H21 H' ∧ rV K (mxM M0 [p3]) H' (.mu p3 (List.map D.str lines)) (V.ref p3) ∧ SMB H' st Y n5 ∧ Inv2 i lines many2 n5) ⟨(if (!decide (start = "")) = true then (([("r " ++ (fieldsF "xy" ([1] : (List Int))))] : (List Str)) ++ ([(((cutS start none (some (-1 : Int))) ++ "* ") ++ (fieldsF "ab" acc))] : (List Str))) else ([("r " ++ (fieldsF "ab" acc))] : (List Str))), many, _, _, _, n3, rfl, g23, Lx.refl, h33, hS20, hI6⟩ (fun i σ' H' _ ⟨_, _, _, _, _, _, _, _, hl, _⟩ => ⟨_, hl⟩) ?_ ?_
    · rintro i2 x3 σ' H22 H23 hi2 ⟨lines, many2, o, o2, o3, n5, rfl, g24, l8, h34, hS21, hI9⟩ yd2
      obtain ⟨name, hy2, s19, hr3⟩ := yd_map yd2
      have hw := hI7 i2 name  lines many2 n5 hy2 hI9
      have hr3 := hr3 _ g24.wd l8
      have g25 := g24.same s19
      have h35 := rV.same s19 h34
      have hS22 := hS21.same s19
      cases (show x3 = (V.str name) from hr3)
      unfold W_l_kinds_bound_b1 at hw
      try dsimp only [gName]
      refine st_norm (σ' := [some (V.ref st), some (V.str start), some (V.ref p), none, some (V.ref p3), some (V.int many2), some v13, some (V.str name), o2, o3]) rfl ?_
      refine st_par ?_
      refine x_cons ?_
      refine x_call ?_
      refine x_cons ?_
      refine ⟨_, rfl, ?_⟩
      refine x_cons ?_
      refine EV.goA (K := K) (en := (eL D.str)) (x0 := (["!", "?"] : (List Str))) (ev_lst (ds := [D.str "!", D.str "?"]) (eva_cons ev_str (eva_cons ev_str eva_nil)) (Nat.le_of_ble_eq_true rfl)) g25.wd fun d e2 v15 H25 wd17 s21 h37 => ?_
      have hw := hw d e2
      have g26 := g25.same s21
      have h38 := rV.same s21 h35
      have hS23 := hS22.same s21
      refine x_nil ?_
      refine ⟨mxM M0 [p3], st, Y, n5, (eL D.str) d, _, _, rfl, g26.wd, fun y hy => .inl (g26.ys y hy), hS23, ⟨_, _, rfl, h37, rfl⟩, of_gen (en := D.str) (xs := d) (.inl rfl) hw, fun dd v17 n7 H27 hw wd19 b4 hS25 h40 => ?_⟩
      obtain ⟨mark3, rfl, hw⟩ := hw
      have g27 := g26.call wd19 b4
      have l9 := Gd.lx_call g26 b4
      have h41 := mu_call h38 rfl g26 (by simp) b4
      cases (show v17 = (V.str mark3) from h40)
      refine x_cons ?_
      refine x_lc ?_
      refine x_rng1 ?_
      refine x_cons ?_
      refine x_op ?_
      refine EV.go (K := K) (d := (.im (D.int 1))) ev_int g27.wd fun v18 H28 wd20 s22 h42 => ?_
      have g28 := g27.same s22
      have h43 := rV.same s22 h41
      have hS26 := hS25.same s22
      cases (show v18 = (V.int 1) from h42)
      refine x_call ?_
      refine x_cons ?_
      refine ⟨_, rfl, ?_⟩
      refine x_cons ?_
      refine EV.go (K := K) (d := (.im (D.int 2))) ev_int g28.wd fun v20 H30 wd22 s24 h45 => ?_
      have g29 := g28.same s24
      have h46 := rV.same s24 h43
      have hS27 := hS26.same s24
      cases (show v20 = (V.int 2) from h45)
      refine x_nil ?_
      refine ⟨mxM M0 [p3], st, Y, n7, 2, _, _, rfl, g29.wd, fun y hy => .inl (g29.ys y hy), hS27, ⟨_, _, rfl, rfl, rfl⟩, hw, fun r3 v21 n8 H31 hw wd23 b5 hS28 h47 => ?_⟩
      have g30 := g29.call wd23 b5
      have l10 := Gd.lx_call g29 b5
      have h48 := mu_call h46 rfl g29 (by simp) b5
      cases (show v21 = (V.int r3) from h47)
      refine opd_go (K := K) (d := (.im (D.int 1))) (e := (.im (D.int r3))) (f := .im (D.int (1 + r3))) od_add g30.wd rfl rfl fun v22 H32 wd24 s25 h49 => ?_
      have g31 := g30.same s25
      have h50 := rV.same s25 h48
      have hS29 := hS28.same s25
      cases (show v22 = (V.int (1 + r3)) from h49)
      refine x_nil ?_
      obtain ⟨c14, c15, hw⟩ := hw
      refine ⟨(1 + r3), rfl, c14, c15, ?_⟩
      have wk3 := wk_range1 (K := K) (M := mxM M0 [p3]) (H := H32) (n := (1 + r3))
      refine fun p4 np4 => ?_
      have s26 := Same.new (o := .lst []) np4
      have ex4 := Gd.ex_new (M0 := M0) (Ls := [p3]) s26 np4
      have g32 := g31.new s26 np4 (upd_same (H := H32) (o := .lst []))
      have h51 := rV.ex ex4 h50
      have hS30 := hS29.same s26
      have h52 : rV K (mxM M0 [p4, p3]) (upd H32 p4 (.lst [])) (.mu p4 (List.map D.int ([] : (List Int)))) (V.ref p4) := ⟨rfl, [], (upd_same (H := H32) (o := .lst [])), rDs.mono ex4.lx _ _ (show rDs K _ [] [] from rfl)⟩
      obtain ⟨Inv3, hI11, hI12, hI13⟩ := hw
      refine lc_itx wk3 (fun i H' => ∃ (acc2 : (List Int)) (n9 : Nat), Gd M0 [p4, p3] Y H H' ∧ Lx (mxM M0 [p4, p3]) (mxM M0 [p4, p3]) (upd H32 p4 (.lst [])) H' ∧ rV K (mxM M0 [p4, p3]) H' (.mu p4 (List.map D.int acc2)) (V.ref p4) ∧ rV K (mxM M0 [p4, p3]) H' (.mu p3 (List.map D.str lines)) (V.ref p3) ∧ SMB H' st Y n9 ∧ Inv3 i acc2 n9) ⟨[], n8, g32, Lx.refl, h52, h51, hS30, hI11⟩ (fun i H' _ ⟨_, _, _, hl, _⟩ => ⟨_, ex4.lx.trans hl⟩) ?_ ?_
      · rintro i3 x4 H33 H34 hi3 ⟨acc2, n9, g33, l11, h53, h54, hS31, hI10⟩ yd3
        obtain ⟨turn2, hy3, s27, hr4⟩ := yd_map yd3
        have hw := hI12 i3 turn2 acc2 n9 hy3 hI10
        have hr4 := hr4 _ g33.wd (ex4.lx.trans l11)
        have g34 := g33.same s27
        have h55 := rV.same s27 h54
        have h56 := rV.same s27 h53
        have hS32 := hS31.same s27
        cases (show x4 = (V.int turn2) from hr4)
        refine ⟨rfl, ?_⟩
        refine x_yes ?_
        refine x_op ?_
        refine EV.go (K := K) (d := (.im (D.int 1))) ev_int g34.wd fun v23 H35 wd25 s28 h57 => ?_
        have g35 := g34.same s28
        have h58 := rV.same s28 h55
        have h59 := rV.same s28 h56
        have hS33 := hS32.same s28
        cases (show v23 = (V.int 1) from h57)
        refine x_call ?_
        refine x_cons ?_
        refine ⟨_, rfl, ?_⟩
        refine x_cons ?_
        refine EV.go (K := K) (d := (.im (D.int 3))) ev_int g35.wd fun v25 H37 wd27 s30 h61 => ?_
        have g36 := g35.same s30
        have h62 := rV.same s30 h58
        have h63 := rV.same s30 h59
        have hS34 := hS33.same s30
        cases (show v25 = (V.int 3) from h61)
        refine x_nil ?_
        refine ⟨mxM M0 [p4, p3], st, Y, n9, 3, _, _, rfl, g36.wd, fun y hy => .inl (g36.ys y hy), hS34, ⟨_, _, rfl, rfl, rfl⟩, hw, fun r4 v26 n10 H38 hw wd28 b6 hS35 h64 => ?_⟩
        have g37 := g36.call wd28 b6
        have l12 := Gd.lx_call g36 b6
        have h65 := mu_call h62 rfl g36 (by simp) b6
        have h66 := mu_call h63 rfl g36 (by simp) b6
        cases (show v26 = (V.int r4) from h64)
        refine opd_go (K := K) (d := (.im (D.int 1))) (e := (.im (D.int r4))) (f := .im (D.int (1 + r4))) od_add g37.wd rfl rfl fun v27 H39 wd29 s31 h67 => ?_
        have g38 := g37.same s31
        have h68 := rV.same s31 h65
        have h69 := rV.same s31 h66
        have hS36 := hS35.same s31
        cases (show v27 = (V.int (1 + r4)) from h67)
        obtain ⟨c16, hw⟩ := hw
        refine x_push (N := (fun i H' => ∃ (acc2 : (List Int)) (n9 : Nat), Gd M0 [p4, p3] Y H H' ∧ Lx (mxM M0 [p4, p3]) (mxM M0 [p4, p3]) (upd H32 p4 (.lst [])) H' ∧ rV K (mxM M0 [p4, p3]) H' (.mu p4 (List.map D.int acc2)) (V.ref p4) ∧ rV K (mxM M0 [p4, p3]) H' (.mu p3 (List.map D.str lines)) (V.ref p3) ∧ SMB H' st Y n9 ∧ Inv3 i acc2 n9) (i3 + 1)) (en := D.int) (x := (1 + r4)) h69 rfl (by simp) c16 fun H5_ ⟨vs5_, eu5_⟩ h5_ => ?_
        subst eu5_
        have g39 : Gd M0 [p4, p3] Y H (upd H39 p4 (.lst vs5_)) := g38.upd (by simp)
        have l13 : Lx (mxM M0 [p4, p3]) (mxM M0 [p4, p3]) H39 (upd H39 p4 (.lst vs5_)) := Gd.lx_upd (by simp)
        have h70 : rV K (mxM M0 [p4, p3]) (upd H39 p4 (.lst vs5_)) (.mu p3 (List.map D.str lines)) (V.ref p3) := mu_upd h68 rfl (nd_ne g38.nd 1 0 rfl rfl (by decide)) (by simp)
        have hS37 : SMB (upd H39 p4 (.lst vs5_)) st Y n10 := hS36.updL (g38.noY (by simp))
        exact ⟨_, _, g39, ((((((l11.trans (Lx.same s27)).trans (Lx.same s28)).trans (Lx.same s30)).trans l12).trans (Lx.same s31)).trans l13), h5_, h70, hS37, hw⟩
      rintro H40 ⟨acc2, n9, g40, l14, h71, h72, hS38, hI14⟩
      have hw := hI13 acc2 n9 hI14
      have h73 : rV K (mxM M0 [p3]) H40 (.im ((eL D.int) acc2)) (V.ref p4) := mu_frzp h71 g40 (i := 0) rfl [1] (by decide) rfl
      have g41 := g40.pick [1] (Ls' := [p3]) (by decide) rfl
      have l15 : Lx (mxM M0 [p4, p3]) (mxM M0 [p3]) H40 H40 := Gd.lx_pick [1] rfl
      have h74 := mu_pick h72 [1] (Ls' := [p3]) rfl
      refine x_nil ?_
      refine ⟨_, _, rfl, ?_⟩
      try dsimp only [gName]
      refine st_norm (σ' := [some (V.ref st), some (V.str start), some (V.ref p), none, some (V.ref p3), some (V.int many2), some v13, some (V.str name), some (V.str mark3), some (V.ref p4)]) rfl ?_
      refine st_expr ?_
      refine x_bm (ev_var (d := (.mu p3 (List.map D.str lines))) (i := 4) rfl h74) LsOf.mu g41.wd fun v28 H41 wd30 s32 h75 => ?_
      have g42 := g41.same s32
      have h76 := rV.same s32 h74
      have hS39 := hS38.same s32
      cases h75.1
      refine x_cons ?_
      have h77 : rV K (mxM M0 [p3]) H41 (.im ((eL D.int) acc2)) (V.ref p4) := (h73.same s32)
      obtain ⟨c17, c18, c19, c20, c21, hw⟩ := hw
      refine EV.go (K := K) (d := (.im (D.str ((((start ++ name) ++ mark3) ++ " ") ++ (fieldsF "fg" acc2))))) (ev_op (ev_op (ev_op (ev_op (ev_vs (i := 1) rfl) (ev_vs (i := 7) rfl) (od_addS c17)) (ev_vs (i := 8) rfl) (od_addS c18)) ev_str (od_addS c19)) (ev_call (eva_cons ev_str (eva_cons (ev_var (d := (.im ((eL D.int) acc2))) (i := 9) rfl h77) eva_nil)) (cd_l_fields "fg" acc2 c20)) (od_addS c21)) g42.wd fun v29 H42 wd31 s33 h78 => ?_
      have g43 := g42.same s33
      have h79 := rV.same s33 h76
      have hS40 := hS39.same s33
      cases (show v29 = (V.str ((((start ++ name) ++ mark3) ++ " ") ++ (fieldsF "fg" acc2))) from h78)
      refine x_nil ?_
      obtain ⟨c22, hw⟩ := hw
      refine x_append (d := D.str ((((start ++ name) ++ mark3) ++ " ") ++ (fieldsF "fg" acc2))) h79 rfl (by simp) (by rw [List.length_map]; exact c22) fun H43 ⟨vs4, eu⟩ h80 => ?_
      obtain ⟨lines2, elines2⟩ : ∃ z_ : (List Str), z_ = (lines ++ [((((start ++ name) ++ mark3) ++ " ") ++ (fieldsF "fg" acc2))]) := ⟨_, rfl⟩
      have hw := hw lines2 elines2
      have h80 : rV K (mxM M0 [p3]) H43 (.mu p3 (List.map D.str lines2)) (V.ref p3) := by rw [elines2, List.map_append]; exact h80
      subst eu
      have g44 : Gd M0 [p3] Y H (upd H42 p3 (.lst vs4)) := g43.upd (by simp)
      have l16 : Lx (mxM M0 [p3]) (mxM M0 [p3]) H42 (upd H42 p3 (.lst vs4)) := Gd.lx_upd (by simp)
      have hS41 : SMB (upd H42 p3 (.lst vs4)) st Y n9 := hS40.updL (g43.noY (by simp))
      refine st_set ?_
      have h81 : rV K (mxM M0 [p3]) (upd H42 p3 (.lst vs4)) (.im ((eL D.int) acc2)) (V.ref p4) := (rV.lx l16 (h77.same s33))
      obtain ⟨c23, c24, hw⟩ := hw
      refine EV.goA (K := K) (en := D.int) (x0 := (many2 * ((prodF acc2) + (if (decide (mark3 = "?")) then (1 : Int) else 0)))) (ev_op (ev_vi (i := 5) rfl) (ev_op (ev_call (eva_cons (ev_var (d := (.im ((eL D.int) acc2))) (i := 9) rfl h81) eva_nil) (cd_l_product acc2 c23)) (ev_cb (eva_cons (ev_op (ev_vs (i := 8) rfl) ev_str od_eqS) eva_nil) cd_intB) od_add) (od_mul c24)) g44.wd fun many3 e3 v30 H44 wd32 s34 h82 => ?_
      have hw := hw many3 e3
      have g45 := g44.same s34
      have h83 := rV.same s34 h80
      have hS42 := hS41.same s34
      cases (show v30 = (V.int many3) from h82)
      try dsimp only [gName]
      refine st_norm (σ' := [some (V.ref st), some (V.str start), some (V.ref p), none, some (V.ref p3), some (V.int many3), some v13, some (V.str name), some (V.str mark3), some (V.ref p4)]) rfl ?_
      refine st_if ?_
      refine EVT.go (b := (decide (16 < many3))) (evt_test (K := K) (ev_op (ev_vi (i := 5) rfl) ev_int od_gt)) g45.wd fun H45 wd33 s35 => ?_
      have g46 := g45.same s35
      have h84 := rV.same s35 h83
      have hS43 := hS42.same s35
      refine wite hw (fun hw => ?_) (fun hw => ?_)
      · skip
        refine st_ret ?_
        have h85 : rV K (mxM M0 []) H45 (.im ((eL D.str) lines2)) (V.ref p3) := mu_frzp h84 g46 (i := 0) rfl [] (by decide) rfl
        have g47 := g46.pick [] (Ls' := []) (by decide) rfl
        have l17 : Lx (mxM M0 [p3]) (mxM M0 []) H45 H45 := Gd.lx_pick [] rfl
        refine EV.go (K := K) (d := (.im ((eP2 (eL D.str) (eO D.int)) (lines2, (some ((lines2.length : Int) - 1)))))) (ev_tup (ds := [(eL D.str) lines2, (eO D.int) (some ((lines2.length : Int) - 1))]) (eva_cons (ev_var (d := (.im ((eL D.str) lines2))) (i := 4) rfl h85) (eva_cons (ev_op (ev_cb (eva_cons (ev_var (d := (.im ((eL D.str) lines2))) (i := 4) rfl h85) eva_nil) (cd_lenm (en := D.str) (xs := lines2) (.inl LsOf.im))) ev_int od_sub) eva_nil)) (Nat.le_of_ble_eq_true rfl)) g47.wd fun v31 H46 wd34 s36 h86 => ?_
        have g48 := g47.same s36
        have hS44 := hS43.same s36
        exact kk _ _ _ _ hw g48.w_end g48.bu hS44 (rV.lx Gd.lx_end h86)
      · skip
        refine Lf.st_next ?_
        exact ⟨lines2, many3, _, _, _, n9, rfl, g46, (((((((((((((((l8.trans (Lx.same s19)).trans (Lx.same s21)).trans l9).trans (Lx.same s22)).trans (Lx.same s24)).trans l10).trans (Lx.same s25)).trans ex4.lx).trans l14).trans l15).trans (Lx.same s32)).trans (Lx.same s33)).trans l16).trans (Lx.same s34)).trans (Lx.same s35)), h84, hS43, hw⟩
    · rintro σ' H47 ⟨lines, many2, o, o2, o3, n5, rfl, g49, l18, h34, hS21, hI15⟩
      have hw := hI8 lines many2 n5 hI15
      unfold W_l_kinds_bound_k1 at hw
      try dsimp only [gName]
      refine st_norm (σ' := [some (V.ref st), some (V.str start), some (V.ref p), none, some (V.ref p3), some (V.int many2), some v13, o, o2, o3]) rfl ?_
      refine st_ret ?_
      have h87 : rV K (mxM M0 []) H47 (.im ((eL D.str) lines)) (V.ref p3) := mu_frzp h34 g49 (i := 0) rfl [] (by decide) rfl
      have g50 := g49.pick [] (Ls' := []) (by decide) rfl
      have l19 : Lx (mxM M0 [p3]) (mxM M0 []) H47 H47 := Gd.lx_pick [] rfl
      have h88 : rV K (mxM M0 []) H47 (.im ((eO D.int) none)) v13 := (rV.lx l19 (rV.lx l18 ((rV.lx l7 ((h26.same s16).ex ex3)).same s18)))
      refine EV.go (K := K) (d := (.im ((eP2 (eL D.str) (eO D.int)) (lines, none)))) (ev_tup (ds := [(eL D.str) lines, (eO D.int) none]) (eva_cons (ev_var (d := (.im ((eL D.str) lines))) (i := 4) rfl h87) (eva_cons (ev_var (d := (.im ((eO D.int) none))) (i := 6) rfl h88) eva_nil)) (Nat.le_of_ble_eq_true rfl)) g50.wd fun v32 H48 wd35 s37 h89 => ?_
      have g51 := g50.same s37
      have hS45 := hS21.same s37
      exact kk _ _ _ _ hw g51.w_end g51.bu hS45 (rV.lx Gd.lx_end h89)

end
end Toy

set_option Elab.async false
set_option linter.all false
set_option maxRecDepth 100000
set_option maxHeartbeats 4000000
set_option pp.maxSteps 300
set_option pp.deepTerms false
namespace Toy
open PySem L2 Lf
section
variable {P : Program} {w : World} {K : PySem.W.Frag} {mg : Str → Option Value} {base : Heap} {a : Ad}

def S_right (n : Nat) (P : Bool → Nat → Prop) : Prop := n + 300 ≤ 2 ^ 28 ∧ ∀ m, m ≤ n + 300 → P true m
theorem sumL_le : ∀ {xs : List Str} {b : Nat}, (∀ l ∈ xs, l.length ≤ b) → (xs.map (·.length)).sum ≤ b * xs.length
  | [], b, _ => by simp
  | x :: xs, b, h => by
    have a := h x (List.mem_cons_self ..)
    have c := sumL_le (xs := xs) (b := b) fun l hl => h l (List.mem_cons_of_mem _ hl)
    rw [List.map_cons, List.sum_cons, List.length_cons, Nat.mul_succ]
    omega
theorem jb {xs : List Str} (h1 : xs.length ≤ 10) (h2 : ∀ l ∈ xs, l.length ≤ 60) : (xs.map (·.length)).sum + xs.length * ("\n" : Str).length ≤ 16777216 ∧ ParseOk (Txt.join "\n" xs) := by
  have e : ("\n" : Str).length = 1 := by decide +kernel
  have s := sumL_le h2
  have j := join_len "\n" xs
  have k : 60 * xs.length ≤ 600 := Nat.le_trans (Nat.mul_le_mul_left 60 h1) (by decide)
  refine ⟨by rw [e]; omega, parseOk_any (by rw [e] at j; omega)⟩
theorem cutD_sub {xs : List Str} {lo hi : Option Int} (h1 : xs.length ≤ 9) (h2 : ∀ l ∈ xs, l.length ≤ 60) : (cutD xs lo hi).length ≤ 10 ∧ ∀ l ∈ cutD xs lo hi, l.length ≤ 60 := by
  unfold cutD
  refine ⟨by rw [List.length_take, List.length_drop]; omega, fun l hl => h2 l (List.mem_of_mem_drop (List.mem_of_mem_take hl))⟩
theorem headsLen_ok {t : Str} {x : Int × Int} (h : headsLen t = some x) : ∃ s, parseS t = .ok s ∧ (s.marks.length : Int) = x.1 ∧ (s.heads.length : Int) = x.2 ∧ refusedS t = none ∧ schOf t = s := by
  unfold headsLen at h
  cases e : parseS t with
  | error y => rw [e] at h; cases h
  | ok s =>
    rw [e] at h
    cases h
    exact ⟨s, rfl, rfl, rfl, by unfold refusedS; rw [e], schOf_eq e⟩
theorem headsLen_1 {t : Str} {y : Int} (h : (headsLen t).map (·.1) = some y) : ∃ s, parseS t = .ok s ∧ (s.marks.length : Int) = y ∧ refusedS t = none ∧ schOf t = s := by
  cases e : headsLen t with
  | none => rw [e] at h; cases h
  | some x =>
    rw [e] at h
    cases h
    obtain ⟨s, a, b, _, c, d⟩ := headsLen_ok e
    exact ⟨s, a, b, c, d⟩
theorem headsLen_2 {t : Str} {y : Int} (h : (headsLen t).map (·.2) = some y) : ∃ s, parseS t = .ok s ∧ (s.heads.length : Int) = y ∧ refusedS t = none ∧ schOf t = s := by
  cases e : headsLen t with
  | none => rw [e] at h; cases h
  | some x =>
    rw [e] at h
    cases h
    obtain ⟨s, a, _, b, c, d⟩ := headsLen_ok e
    exact ⟨s, a, b, c, d⟩
theorem rows_len : ∀ m0 ∈ (["*", "!"] : List Str), ∀ m1 ∈ (["*", "!"] : List Str), (rowsK m0 m1).all (fun l => decide (l.length ≤ 60)) = true := by decide +kernel
theorem deep_len : ∀ m0 ∈ (["*", "!"] : List Str), ∀ m1 ∈ (["*", "!"] : List Str), ∀ r ∈ ([0, 1, 2] : List Int), (deepK m0 m1 r ++ ([Str.ofString "a_b_c_d* x=1"] : List Str)).all (fun l => decide (l.length ≤ 60)) = true := by decide +kernel
theorem all_len {xs : List Str} (h : xs.all (fun l => decide (l.length ≤ 60)) = true) : ∀ l ∈ xs, l.length ≤ 60 := fun l hl => of_decide_eq_true (List.all_eq_true.mp h l hl)
theorem parse_wf {t : Str} {s : Sch} (h : parseS t = .ok s) : ∃ c0 rs, RecsOk c0 rs ∧ rs.length ≤ 5 ∧ s = SchOf t (allR c0 rs) := by
  have l0 : 0 < (linesOf t).length := by
    have h1 := List.length_pos_iff.mpr (split_nl t).ne
    have h2 : (linesOf t).length = (Txt.split t "\n").length := by
      unfold linesOf enumI
      simp
    omega
  have e : ((linesOf t).take ((linesOf t).length - 1 + 1)).foldl stepS (.ok ⟨t, [], []⟩) = .ok s := by
    rw [show (linesOf t).length - 1 + 1 = (linesOf t).length by omega, List.take_length]
    exact h
  obtain ⟨c0, rs, a, b, c, d⟩ := shape_any (t := t) ((linesOf t).length - 1) s (by omega) e
  exact ⟨c0, rs, a, by omega, d⟩
def W_l_right (n : Nat) (P : Bool → Nat → Prop) : Prop :=
  ∀ d : (List Str), d = (["", "k_", "q_"] : (List Str)) → S_of n d (fun (start3 : Str) n3 => S_kb n3 start3 (fun d2 n4 => ∀ lines : (List Str), lines = d2.1 → ∀ first : (Option Int), first = d2.2 → (((lines).map (·.length)).sum + lines.length * ("\n" : Str).length ≤ 16777216) ∧ (ParseOk (Txt.join "\n" lines)) ∧ (if (!decide ((refusedS (Txt.join "\n" lines)) = first)) = true then (P false n4) else (((!first.isNone) = true → first.isSome = true) ∧ ((!first.isNone) = true → (((cutD lines none (some (getO first)))).map (·.length)).sum + (cutD lines none (some (getO first))).length * ("\n" : Str).length ≤ 16777216) ∧ ((!first.isNone) = true → ParseOk (Txt.join "\n" (cutD lines none (some (getO first))))) ∧ (if ((!first.isNone) && (!(refusedS (Txt.join "\n" (cutD lines none (some (getO first))))).isNone)) = true then (P false n4) else (((!first.isNone) = true → lines.length + (["zzz* a=1"] : (List Str)).length ≤ sizeLine) ∧ ((!first.isNone) = true → (((lines ++ (["zzz* a=1"] : (List Str)))).map (·.length)).sum + (lines ++ (["zzz* a=1"] : (List Str))).length * ("\n" : Str).length ≤ 16777216) ∧ ((!first.isNone) = true → ParseOk (Txt.join "\n" (lines ++ (["zzz* a=1"] : (List Str))))) ∧ (if ((!first.isNone) && (!decide ((refusedS (Txt.join "\n" (lines ++ (["zzz* a=1"] : (List Str))))) = first))) = true then (P false n4) else (∀ names : (List Str), names = (["a", "b", "c", "d", "e", "f"] : (List Str)) → ∃ Inv : Nat → (List Str) → Nat → Prop, Inv 0 [] n4 ∧ (∀ (i : Nat) (name : Str) (acc : (List Str)) (n5 : Nat), names[i]? = some name → Inv i acc n5 → ∀ d3 : (List Str), d3 = (["*", "*", "!"] : (List Str)) → S_of n5 d3 (fun (r2 : Str) n7 => (acc.length < sizeLine) ∧ Inv (i + 1) (acc ++ [r2]) n7)) ∧ (∀ (acc : (List Str)) (n5 : Nat), Inv names.length acc n5 → ((enumI acc).length ≤ sizeLine) ∧ ∀ marks2 : (List Str), marks2 = ((enumI acc).map fun (z : (Int × Str)) => (if (decide (z.1 < 2)) = true then z.2 else "*")) → ((names.zip marks2).length ≤ sizeLine) ∧ (∀ z2 ∈ (names.zip marks2), (z2.1 : Str).length + (z2.2 : Str).length ≤ sizeLine) ∧ (∀ z2 ∈ (names.zip marks2), ((z2.1 ++ z2.2) : Str).length + (" x=1" : Str).length ≤ sizeLine) ∧ ((["r x=1"] : (List Str)).length + ((names.zip marks2).map fun (z2 : (Str × Str)) => ((z2.1 ++ z2.2) ++ " x=1")).length ≤ sizeLine) ∧ ∀ rows : (List Str), rows = ((["r x=1"] : (List Str)) ++ ((names.zip marks2).map fun (z2 : (Str × Str)) => ((z2.1 ++ z2.2) ++ " x=1"))) → ((((cutD rows none (some 6))).map (·.length)).sum + (cutD rows none (some 6)).length * ("\n" : Str).length ≤ 16777216) ∧ (ParseOk (Txt.join "\n" (cutD rows none (some 6)))) ∧ ((!(refusedS (Txt.join "\n" (cutD rows none (some 6)))).isNone) = false → ((rows).map (·.length)).sum + rows.length * ("\n" : Str).length ≤ 16777216) ∧ ((!(refusedS (Txt.join "\n" (cutD rows none (some 6)))).isNone) = false → ParseOk (Txt.join "\n" rows)) ∧ (if ((!(refusedS (Txt.join "\n" (cutD rows none (some 6)))).isNone) || (!decide ((refusedS (Txt.join "\n" rows)) = (some 6)))) = true then (P false n5) else (S_take n5 3 (fun r3 n8 => (((1 + r3) : Int).natAbs.log2 < 1920) ∧ (("a* x=" : Str).length + ((Str.ofString (toString ((1 + r3) : Int))) : Str).length ≤ sizeLine) ∧ (InB marks2 0) ∧ (("a_b" : Str).length + ((ixD marks2 0) : Str).length ≤ sizeLine) ∧ ((("a_b" ++ (ixD marks2 0)) : Str).length + (" x=1" : Str).length ≤ sizeLine) ∧ (InB marks2 1) ∧ (("a_b_c" : Str).length + ((ixD marks2 1) : Str).length ≤ sizeLine) ∧ ((("a_b_c" ++ (ixD marks2 1)) : Str).length + (" x=1" : Str).length ≤ sizeLine) ∧ ((((["r x=1", ("a* x=" ++ (Str.ofString (toString ((1 + r3) : Int)))), (("a_b" ++ (ixD marks2 0)) ++ " x=1"), (("a_b_c" ++ (ixD marks2 1)) ++ " x=1")] : (List Str))).map (·.length)).sum + (["r x=1", ("a* x=" ++ (Str.ofString (toString ((1 + r3) : Int)))), (("a_b" ++ (ixD marks2 0)) ++ " x=1"), (("a_b_c" ++ (ixD marks2 1)) ++ " x=1")] : (List Str)).length * ("\n" : Str).length ≤ 16777216) ∧ (ParseOk (Txt.join "\n" (["r x=1", ("a* x=" ++ (Str.ofString (toString ((1 + r3) : Int)))), (("a_b" ++ (ixD marks2 0)) ++ " x=1"), (("a_b_c" ++ (ixD marks2 1)) ++ " x=1")] : (List Str)))) ∧ ((!(refusedS (Txt.join "\n" (["r x=1", ("a* x=" ++ (Str.ofString (toString ((1 + r3) : Int)))), (("a_b" ++ (ixD marks2 0)) ++ " x=1"), (("a_b_c" ++ (ixD marks2 1)) ++ " x=1")] : (List Str)))).isNone) = false → (["r x=1", ("a* x=" ++ (Str.ofString (toString ((1 + r3) : Int)))), (("a_b" ++ (ixD marks2 0)) ++ " x=1"), (("a_b_c" ++ (ixD marks2 1)) ++ " x=1")] : (List Str)).length + (["a_b_c_d* x=1"] : (List Str)).length ≤ sizeLine) ∧ ((!(refusedS (Txt.join "\n" (["r x=1", ("a* x=" ++ (Str.ofString (toString ((1 + r3) : Int)))), (("a_b" ++ (ixD marks2 0)) ++ " x=1"), (("a_b_c" ++ (ixD marks2 1)) ++ " x=1")] : (List Str)))).isNone) = false → ((((["r x=1", ("a* x=" ++ (Str.ofString (toString ((1 + r3) : Int)))), (("a_b" ++ (ixD marks2 0)) ++ " x=1"), (("a_b_c" ++ (ixD marks2 1)) ++ " x=1")] : (List Str)) ++ (["a_b_c_d* x=1"] : (List Str)))).map (·.length)).sum + ((["r x=1", ("a* x=" ++ (Str.ofString (toString ((1 + r3) : Int)))), (("a_b" ++ (ixD marks2 0)) ++ " x=1"), (("a_b_c" ++ (ixD marks2 1)) ++ " x=1")] : (List Str)) ++ (["a_b_c_d* x=1"] : (List Str))).length * ("\n" : Str).length ≤ 16777216) ∧ ((!(refusedS (Txt.join "\n" (["r x=1", ("a* x=" ++ (Str.ofString (toString ((1 + r3) : Int)))), (("a_b" ++ (ixD marks2 0)) ++ " x=1"), (("a_b_c" ++ (ixD marks2 1)) ++ " x=1")] : (List Str)))).isNone) = false → ParseOk (Txt.join "\n" ((["r x=1", ("a* x=" ++ (Str.ofString (toString ((1 + r3) : Int)))), (("a_b" ++ (ixD marks2 0)) ++ " x=1"), (("a_b_c" ++ (ixD marks2 1)) ++ " x=1")] : (List Str)) ++ (["a_b_c_d* x=1"] : (List Str))))) ∧ (if ((!(refusedS (Txt.join "\n" (["r x=1", ("a* x=" ++ (Str.ofString (toString ((1 + r3) : Int)))), (("a_b" ++ (ixD marks2 0)) ++ " x=1"), (("a_b_c" ++ (ixD marks2 1)) ++ " x=1")] : (List Str)))).isNone) || (!decide ((refusedS (Txt.join "\n" ((["r x=1", ("a* x=" ++ (Str.ofString (toString ((1 + r3) : Int)))), (("a_b" ++ (ixD marks2 0)) ++ " x=1"), (("a_b_c" ++ (ixD marks2 1)) ++ " x=1")] : (List Str)) ++ (["a_b_c_d* x=1"] : (List Str))))) = (some 4)))) = true then (P false n8) else (((((cutD rows none (some 6))).map (·.length)).sum + (cutD rows none (some 6)).length * ("\n" : Str).length ≤ 16777216) ∧ (pre_Schema (Txt.join "\n" (cutD rows none (some 6)))) ∧ (0 ≤ (Sch.len (schOf (Txt.join "\n" (cutD rows none (some 6)))))) ∧ ((Sch.len (schOf (Txt.join "\n" (cutD rows none (some 6))))) < 2 ^ 63) ∧ ((decide ((Sch.len (schOf (Txt.join "\n" (cutD rows none (some 6))))) = 6)) = true → (((["r x=1", ("a* x=" ++ (Str.ofString (toString ((1 + r3) : Int)))), (("a_b" ++ (ixD marks2 0)) ++ " x=1"), (("a_b_c" ++ (ixD marks2 1)) ++ " x=1")] : (List Str))).map (·.length)).sum + (["r x=1", ("a* x=" ++ (Str.ofString (toString ((1 + r3) : Int)))), (("a_b" ++ (ixD marks2 0)) ++ " x=1"), (("a_b_c" ++ (ixD marks2 1)) ++ " x=1")] : (List Str)).length * ("\n" : Str).length ≤ 16777216) ∧ ((decide ((Sch.len (schOf (Txt.join "\n" (cutD rows none (some 6))))) = 6)) = true → pre_Schema (Txt.join "\n" (["r x=1", ("a* x=" ++ (Str.ofString (toString ((1 + r3) : Int)))), (("a_b" ++ (ixD marks2 0)) ++ " x=1"), (("a_b_c" ++ (ixD marks2 1)) ++ " x=1")] : (List Str)))) ∧ ((decide ((Sch.len (schOf (Txt.join "\n" (cutD rows none (some 6))))) = 6)) = true → pre_shds (schOf (Txt.join "\n" (["r x=1", ("a* x=" ++ (Str.ofString (toString ((1 + r3) : Int)))), (("a_b" ++ (ixD marks2 0)) ++ " x=1"), (("a_b_c" ++ (ixD marks2 1)) ++ " x=1")] : (List Str))))) ∧ P ((decide ((Sch.len (schOf (Txt.join "\n" (cutD rows none (some 6))))) = 6)) && (decide (((Sch.heads (schOf (Txt.join "\n" (["r x=1", ("a* x=" ++ (Str.ofString (toString ((1 + r3) : Int)))), (("a_b" ++ (ixD marks2 0)) ++ " x=1"), (("a_b_c" ++ (ixD marks2 1)) ++ " x=1")] : (List Str))))).length : Int) = (2 + ((cutD marks2 none (some 2)).count (Str.ofString "*") : Int))))) n8))))))))))))))
theorem dW_l_right {n : Nat} {P : Bool → Nat → Prop} (h : S_right n P) : W_l_right n P := by
  obtain ⟨hn, k⟩ := h
  have sl := sizeLine_eq
  rintro _ rfl
  refine ⟨by omega, by decide, by decide, fun start hs => ⟨by omega, hs, fun d n4 kb hn4 => ?_⟩⟩
  obtain ⟨lines, first⟩ := d
  obtain ⟨le, ll, rf, at_⟩ := kb
  rintro l2 el f2 ef
  have el : lines = l2 := el.symm
  have ef : first = f2 := ef.symm
  subst el ef
  have le : lines.length ≤ 5 := le
  have ll : ∀ l ∈ lines, l.length ≤ 60 := ll
  have rf : refusedS (Txt.join "\n" lines) = first := rf
  have at_ : ∀ i, first = some i → refusedS (Txt.join "\n" (cutD lines none (some i))) = none ∧ refusedS (Txt.join "\n" (lines ++ ([Str.ofString "zzz* a=1"] : List Str))) = some i := at_
  obtain ⟨j1, j2⟩ := jb (xs := lines) (by omega) ll
  refine ⟨j1, j2, ?_⟩
  rw [rf, decide_eq_true rfl]
  obtain ⟨c1, c2⟩ := cutD_sub (lo := none) (hi := some (getO first)) (xs := lines) (by omega) ll
  obtain ⟨j3, j4⟩ := jb c1 c2
  refine iteF ⟨fun q => by cases first with | none => exact absurd q (by decide) | some i => rfl, fun _ => j3, fun _ => j4, ?_⟩
  have f1 : ((!first.isNone) && (!(refusedS (Txt.join "\n" (cutD lines none (some (getO first))))).isNone)) = false := by
    cases e : first with
    | none => rfl
    | some i =>
      have := (at_ i e).1
      show (true && !(refusedS (Txt.join "\n" (cutD lines none (some i)))).isNone) = false
      rw [this]
      rfl
  rw [f1]
  have l9 : (lines ++ (["zzz* a=1"] : (List Str))).length ≤ 10 := by rw [List.length_append, List.length_singleton]; omega
  have l8 : ∀ l ∈ (lines ++ (["zzz* a=1"] : (List Str))), l.length ≤ 60 := fun l hl => by
    rcases List.mem_append.mp hl with hl | hl
    · exact ll l hl
    · rw [List.mem_singleton.mp hl]; decide +kernel
  obtain ⟨j5, j6⟩ := jb l9 l8
  refine iteF ⟨fun _ => by rw [List.length_singleton]; omega, fun _ => j5, fun _ => j6, ?_⟩
  have f2 : ((!first.isNone) && (!decide ((refusedS (Txt.join "\n" (lines ++ (["zzz* a=1"] : (List Str))))) = first))) = false := by
    cases e : first with
    | none => rfl
    | some i =>
      have := (at_ i e).2
      show (true && !decide (refusedS (Txt.join "\n" (lines ++ ([Str.ofString "zzz* a=1"] : List Str))) = some i)) = false
      rw [this, decide_eq_true rfl]
      rfl
  rw [f2]
  refine iteF ?_
  rintro _ rfl
  refine ⟨fun i acc m => acc.length = i ∧ (∀ x ∈ acc, x ∈ (["*", "!"] : List Str)) ∧ m = n4 + i, ⟨rfl, fun x hx => (nomatch hx), rfl⟩, ?_, ?_⟩
  · rintro i name acc m hi ⟨h1, h2, h3⟩
    have il : i < 6 := (List.getElem?_eq_some_iff.mp hi).1
    rintro _ rfl
    refine ⟨by omega, by decide, by decide, fun x hx => ⟨sz_lt (by omega), by rw [List.length_append, h1]; rfl, fun y hy => ?_, by omega⟩⟩
    rcases List.mem_append.mp hy with hy | hy
    · exact h2 y hy
    · rw [List.mem_singleton.mp hy]
      have : ∀ z ∈ (["*", "*", "!"] : List Str), z ∈ (["*", "!"] : List Str) := by decide +kernel
      exact this x hx
  · rintro acc m ⟨h1, h2, h3⟩
    have h1 : acc.length = 6 := h1
    match acc, h1 with
    | [a0, a1, a2, a3, a4, a5], _ =>
      have h3 : m = n4 + 6 := h3
      have m0 : a0 ∈ (["*", "!"] : List Str) := h2 a0 (by simp)
      have m1 : a1 ∈ (["*", "!"] : List Str) := h2 a1 (by simp)
      refine ⟨sz_of (by show 6 ≤ 100000; decide), ?_⟩
      rintro marks em
      have em : marks = [a0, a1, "*", "*", "*", "*"] := em
      subst em
      have ln : ∀ z ∈ ((["a", "b", "c", "d", "e", "f"] : List Str).zip [a0, a1, "*", "*", "*", "*"]), z.1.length = 1 ∧ z.2.length = 1 := by
        have q1 : ∀ z ∈ (["*", "!"] : List Str), z.length = 1 := by decide +kernel
        have q2 : ∀ z ∈ (["a", "b", "c", "d", "e", "f"] : List Str), z.length = 1 := by decide +kernel
        intro z hz
        obtain ⟨u1, u2⟩ := List.of_mem_zip hz
        refine ⟨q2 _ u1, q1 _ ?_⟩
        simp only [List.mem_cons, List.not_mem_nil, or_false] at u2 m0 m1 ⊢
        rcases u2 with u | u | u | u | u | u
        · rw [u]; exact m0
        · rw [u]; exact m1
        all_goals exact .inl u
      have lx : (" x=1" : Str).length = 4 := by decide +kernel
      refine ⟨sz_of (by show 6 ≤ 100000; decide), fun z hz => ?_, fun z hz => ?_, sz_of (by show 1 + 6 ≤ 100000; decide), ?_⟩
      · obtain ⟨u1, u2⟩ := ln z hz; omega
      · obtain ⟨u1, u2⟩ := ln z hz; rw [len_cat, lx]; omega
      rintro rows er
      have er : rows = rowsK a0 a1 := er
      subst er
      obtain ⟨r1, r2⟩ := rows_ok a0 m0 a1 m1
      have rl := all_len (rows_len a0 m0 a1 m1)
      have r7 : (rowsK a0 a1).length = 7 := rfl
      obtain ⟨d1, d2⟩ := cutD_sub (lo := none) (hi := some 6) (xs := rowsK a0 a1) (by omega) rl
      obtain ⟨j7, j8⟩ := jb d1 d2
      obtain ⟨j9, j10⟩ := jb (xs := rowsK a0 a1) (by omega) rl
      obtain ⟨s1, p1, p2, p3, p4⟩ := headsLen_1 r1
      refine ⟨j7, j8, fun _ => j9, fun _ => j10, ?_⟩
      rw [p3, r2, decide_eq_true rfl]
      refine iteF ⟨by omega, by decide, by decide, fun r q0 q1 => ?_⟩
      have mr : r ∈ ([0, 1, 2] : List Int) := by
        have : r = 0 ∨ r = 1 ∨ r = 2 := by omega
        rcases this with rfl | rfl | rfl <;> decide
      obtain ⟨e1, e2⟩ := deep_ok a0 m0 a1 m1 r mr
      have dl := all_len (deep_len a0 m0 a1 m1 r mr)
      have dl0 : ∀ l ∈ deepK a0 a1 r, l.length ≤ 60 := fun l hl => dl l (List.mem_append_left _ hl)
      have d4 : (deepK a0 a1 r).length = 4 := rfl
      obtain ⟨j11, j12⟩ := jb (xs := deepK a0 a1 r) (by omega) dl0
      obtain ⟨j13, j14⟩ := jb (xs := deepK a0 a1 r ++ ([Str.ofString "a_b_c_d* x=1"] : List Str)) (by rw [List.length_append, List.length_singleton]; omega) dl
      obtain ⟨s2, t1, t2, t3, t4⟩ := headsLen_2 e1
      have z1 : ∀ z ∈ (["*", "!"] : List Str), z.length = 1 := by decide +kernel
      have l0 := z1 a0 m0
      have l1 := z1 a1 m1
      have k1 : ("a* x=" : Str).length = 5 := by decide +kernel
      have k2 : ("a_b" : Str).length = 3 := by decide +kernel
      have k3 : ("a_b_c" : Str).length = 5 := by decide +kernel
      have k4 : (Str.ofString (toString ((1 + r) : Int))).length = 1 := dig_len (by omega) (by omega)
      have k5 : (1 + r).natAbs.log2 ≤ (1 + r).natAbs := Nat.log2_le_self _
      refine ⟨by omega, by omega, ⟨by show -((6 : Nat) : Int) ≤ 0; decide, by show (0 : Int) < 6; decide⟩, ?_, ?_, ⟨by show -((6 : Nat) : Int) ≤ 1; decide, by show (1 : Int) < 6; decide⟩, ?_, ?_, j11, j12, fun _ => sz_of (by show 4 + 1 ≤ 100000; decide), fun _ => j13, fun _ => j14, ?_⟩
      · show _ + a0.length ≤ _; omega
      · show (Str.ofString "a_b" ++ a0).length + _ ≤ _
        rw [len_cat, lx]; omega
      · show _ + a1.length ≤ _; omega
      · show (Str.ofString "a_b_c" ++ a1).length + _ ≤ _
        rw [len_cat, lx]; omega
      show (if ((!(refusedS (Txt.join "\n" (deepK a0 a1 r))).isNone) || (!decide ((refusedS (Txt.join "\n" (deepK a0 a1 r ++ ([Str.ofString "a_b_c_d* x=1"] : List Str)))) = (some 4)))) = true then _ else _)
      rw [t3, e2, decide_eq_true rfl]
      have z6 : (Sch.len (schOf (Txt.join "\n" (cutD (rowsK a0 a1) none (some 6))))) = 6 := by rw [p4]; exact p2
      refine iteF ⟨j7, ⟨j8, _, p1⟩, by rw [z6]; decide, by rw [z6]; decide, fun _ => j11, fun _ => ⟨j12, _, t1⟩, fun _ => ?_, ?_⟩
      · show pre_shds (schOf (Txt.join "\n" (deepK a0 a1 r)))
        rw [t4]
        obtain ⟨c0, rs, -, b, rfl⟩ := parse_wf t1
        refine sz_of ?_
        unfold SchOf allR
        rw [List.length_map, List.length_cons]
        omega
      · have ec : cutD [a0, a1, (Str.ofString "*"), "*", "*", "*"] none (some 2) = [a0, a1] := cutD_nat _ 2
        have z7 : ((Sch.heads (schOf (Txt.join "\n" (deepK a0 a1 r)))).length : Int) = 2 + ((cutD [a0, a1, (Str.ofString "*"), "*", "*", "*"] none (some 2)).count (Str.ofString "*") : Int) := by rw [t4, ec]; exact t2
        show P ((decide (_ = (6 : Int))) && (decide (((Sch.heads (schOf (Txt.join "\n" (deepK a0 a1 r)))).length : Int) = (2 + ((cutD [a0, a1, (Str.ofString "*"), "*", "*", "*"] none (some 2)).count (Str.ofString "*") : Int))))) _
        rw [decide_eq_true z6, decide_eq_true z7]
        exact k _ (by omega)
def sp_l_right (K : PySem.W.Frag) : Sp := spS SMB K (fun (x : Unit) => []) D.bl (fun n (x : Unit) P => S_right n  P)
theorem sc_l_right : FnScope ["_law_bag_here", "_law_start", "_law_lines", "_law_first", "_law_names", "_law_marks", "_law_name", "_law_at", "_law_mark", "_law_rows", "_law_deep"] ["_law_bag_here"] (defScope s_l_right) := ⟨rfl, rfl, rfl, by decide +kernel, rfl, by decide +kernel, by decide +kernel⟩
theorem ok_l_right (T : Txt K mg a) : FnOk P w K mg base CX0 12 a.f_l_right a.d_l_right ["_law_bag_here"] (sp_l_right K) := by
  refine T.F_l_right.ok sc_l_right (fun vs H Q E h => ?_) (fun cdv A outer s H vs Q E hr h => ?_)
  · obtain ⟨M0, st, Y, n, x, us, P, rfl, w0, ys, hS, hx, _⟩ := h
    exact congrArg Nat.succ hx.len
  · obtain ⟨M0, st, Y, n, x, us, P, rfl, w0, ys, hS, hx, hS0, kk⟩ := h
    have hx : rDs K (Fx M0 H) [] us := hx
    cases (show us = [] from hx)
    have g : Gd M0 [] Y H H := Gd.start w0 ys
    have hw := dW_l_right hS0
    unfold W_l_right at hw
    refine ⟨_, (pss_cons (ps_set (i := 1) sc_l_right.nd rfl (.inl rfl) (pe_call (ok_l_of T) (hr.mono (by decide)) rfl T.m_l_of T.k_l_of T.a_l_of .nil pass0 (pa_cons (pv 0) (pa_cons (pe_lstS (pa_cons pe_str (pa_cons pe_str (pa_cons pe_str pa_nil)))) pa_nil))))
      (pss_cons (ps_asg (pe_call (ok_l_kinds_bound T) (hr.mono (by decide)) rfl T.m_l_kinds_bound T.k_l_kinds_bound T.a_l_kinds_bound .nil pass0 (pa_cons (pv 0) (pa_cons (pv 1) pa_nil))) (pg_tup rfl (pgs_cons (pg_name (i := 2) sc_l_right.nd rfl (.inl rfl)) (pgs_cons (pg_name (i := 3) sc_l_right.nd rfl (.inl rfl)) pgs_nil))))
      (pss_cons (ps_if (pt_cmpR (op_neD hr.units) (pe_call (ok_l_refused T) (hr.mono (by decide)) rfl T.m_l_refused T.k_l_refused T.a_l_refused .nil pass0 (pa_cons (pe_joinR pe_str (pv 2)) pa_nil)) (pv 3) (nomark _)) (pss_cons (ps_ret pe_bl)
      pss_nil) pss_nil)
      (pss_cons (ps_if (PW.pt (pw_and (pt_cmpR op_notN1 (pv 3) pe_non (nomark _)) (pw_and1 (pt_cmpR op_notN1 (pe_call (ok_l_refused T) (hr.mono (by decide)) rfl T.m_l_refused T.k_l_refused T.a_l_refused .nil pass0 (pa_cons (pe_joinR pe_str (pe_slice sl_listS (pv 2) po_none (po_some (pv 3)))) pa_nil)) pe_non (nomark _))))) (pss_cons (ps_ret pe_bl)
      pss_nil) pss_nil)
      (pss_cons (ps_if (PW.pt (pw_and (pt_cmpR op_notN1 (pv 3) pe_non (nomark _)) (pw_and1 (pt_cmpR (op_neD hr.units) (pe_call (ok_l_refused T) (hr.mono (by decide)) rfl T.m_l_refused T.k_l_refused T.a_l_refused .nil pass0 (pa_cons (pe_joinR pe_str (pe_op op_catS (pv 2) (pe_lstS (pa_cons pe_str pa_nil)))) pa_nil)) (pv 3) (nomark _))))) (pss_cons (ps_ret pe_bl)
      pss_nil) pss_nil)
      (pss_cons (ps_set (i := 4) sc_l_right.nd rfl (.inl rfl) (pe_lstS (pa_cons pe_str (pa_cons pe_str (pa_cons pe_str (pa_cons pe_str (pa_cons pe_str (pa_cons pe_str pa_nil))))))))
      (pss_cons (ps_setLc (i := 5) (own := [("_law_name", 6)]) (g := gName 6) (tt := tYes) (te := (tCall (sp_l_of K) [] E0 (tCons (tVar 0) (tCons (tLstS (tCons (tC (.str "*")) (tCons (tC (.str "*")) (tCons (tC (.str "!")) tNil)))) tNil)))) rfl sc_l_right.nd rfl rfl (sw_true rfl rfl rfl (by decide +kernel)) (pi_list (pv 4)) (blkOk_by (own := [("_law_name", 6)]) (N := ["_law_bag_here", "_law_start", "_law_lines", "_law_first", "_law_names", "_law_marks", "_law_name", "_law_at", "_law_mark", "_law_rows", "_law_deep"]) (sc := defScope s_l_right) (by decide +kernel)) (fun _ _ _ _ _ => (pg_name (i := 6) sc_l_right.nd rfl (.inl rfl))) (fun _ _ _ _ _ => pts_nil) (fun _ _ _ _ _ => (pe_call (ok_l_of T) (hr.mono (by decide)) rfl T.m_l_of T.k_l_of T.a_l_of .nil pass0 (pa_cons (pv 0) (pa_cons (pe_lstS (pa_cons pe_str (pa_cons pe_str (pa_cons pe_str pa_nil)))) pa_nil)))))
      (pss_cons (ps_setLc (i := 5) (own := [("_law_at", 7), ("_law_mark", 8)]) (g := gTup K 2 (gCons (gName 7) (gCons (gName 8) gNil))) (tt := tYes) (te := (tIf (tTest (tOp rLtI (tVar 7) (tC (.int 2)))) (tVar 8) (tC (.str "*")))) rfl sc_l_right.nd rfl rfl (sw_true rfl rfl rfl (by decide +kernel)) (pi_enum (by rfl) T.b_enumerate (pa_cons (pv 5) pa_nil)) (blkOk_by (own := [("_law_at", 7), ("_law_mark", 8)]) (N := ["_law_bag_here", "_law_start", "_law_lines", "_law_first", "_law_names", "_law_marks", "_law_name", "_law_at", "_law_mark", "_law_rows", "_law_deep"]) (sc := defScope s_l_right) (by decide +kernel)) (fun _ _ _ _ _ => (pg_tup rfl (pgs_cons (pg_name (i := 7) sc_l_right.nd rfl (.inl rfl)) (pgs_cons (pg_name (i := 8) sc_l_right.nd rfl (.inl rfl)) pgs_nil)))) (fun _ _ _ _ _ => pts_nil) (fun _ _ _ _ _ => (pe_ifExp (pt_cmpR op_lt (pv 7) pe_int (nomark _)) (pv 8) pe_str)))
      (pss_cons (ps_set (i := 9) sc_l_right.nd rfl (.inl rfl) (pe_op op_catS (pe_lstS (pa_cons pe_str pa_nil)) (pe_lc (own := [("_law_name", 6), ("_law_mark", 8)]) (g := gTup K 2 (gCons (gName 6) (gCons (gName 8) gNil))) (tt := tYes) (te := (tOp Lf.rAddS (tOp Lf.rAddS (tVar 6) (tVar 8)) (tC (.str " x=1")))) rfl sc_l_right.nd (pi_zip (by rfl) T.b_zip (pa_cons (pv 4) (pa_cons (pv 5) pa_nil))) (blkOk_by (own := [("_law_name", 6), ("_law_mark", 8)]) (N := ["_law_bag_here", "_law_start", "_law_lines", "_law_first", "_law_names", "_law_marks", "_law_name", "_law_at", "_law_mark", "_law_rows", "_law_deep"]) (sc := defScope s_l_right) (by decide +kernel)) (fun _ _ _ _ _ => (pg_tup rfl (pgs_cons (pg_name (i := 6) sc_l_right.nd rfl (.inl rfl)) (pgs_cons (pg_name (i := 8) sc_l_right.nd rfl (.inl rfl)) pgs_nil)))) (fun _ _ _ _ _ => pts_nil) (fun _ _ _ _ _ => (pe_op op_add_str (pe_op op_add_str (pv 6) (pv 8)) pe_str)))))
      (pss_cons (ps_if (PW.pt (pw_or (pt_cmpR op_notN1 (pe_call (ok_l_refused T) (hr.mono (by decide)) rfl T.m_l_refused T.k_l_refused T.a_l_refused .nil pass0 (pa_cons (pe_joinR pe_str (pe_slice sl_listS (pv 9) po_none (po_some pe_int))) pa_nil)) pe_non (nomark _)) (pw_or1 (pt_cmpR (op_neD hr.units) (pe_call (ok_l_refused T) (hr.mono (by decide)) rfl T.m_l_refused T.k_l_refused T.a_l_refused .nil pass0 (pa_cons (pe_joinR pe_str (pv 9)) pa_nil)) pe_int (nomark _))))) (pss_cons (ps_ret pe_bl)
      pss_nil) pss_nil)
      (pss_cons (ps_set (i := 10) sc_l_right.nd rfl (.inl rfl) (pe_lstS (pa_cons pe_str (pa_cons (pe_op op_add_str pe_str (pe_callTy call_str_int (by rfl) T.b_str (by decide +kernel) (pa_cons (pe_op op_add pe_int (pe_call (ok_l_take T) (hr.mono (by decide)) rfl T.m_l_take T.k_l_take T.a_l_take .nil pass0 (pa_cons (pv 0) (pa_cons pe_int pa_nil)))) pa_nil))) (pa_cons (pe_op op_add_str (pe_op op_add_str pe_str (pe_ix ix_list (pv 5) pe_int (fun _ _ => rfl))) pe_str) (pa_cons (pe_op op_add_str (pe_op op_add_str pe_str (pe_ix ix_list (pv 5) pe_int (fun _ _ => rfl))) pe_str) pa_nil))))))
      (pss_cons (ps_if (PW.pt (pw_or (pt_cmpR op_notN1 (pe_call (ok_l_refused T) (hr.mono (by decide)) rfl T.m_l_refused T.k_l_refused T.a_l_refused .nil pass0 (pa_cons (pe_joinR pe_str (pv 10)) pa_nil)) pe_non (nomark _)) (pw_or1 (pt_cmpR (op_neD hr.units) (pe_call (ok_l_refused T) (hr.mono (by decide)) rfl T.m_l_refused T.k_l_refused T.a_l_refused .nil pass0 (pa_cons (pe_joinR pe_str (pe_op op_catS (pv 10) (pe_lstS (pa_cons pe_str pa_nil)))) pa_nil)) pe_int (nomark _))))) (pss_cons (ps_ret pe_bl)
      pss_nil) pss_nil)
      (pss_cons (ps_ret (pe_and (pe_cmpR op_eq (pe_callB (call_lenOwn (C := a.C_Schema) T.f_Schema__len T.i_Schema__len ((ok_Schema__len T).raw T.a_Schema__len .nil) (hr.mono (by decide)) pass0) (by rfl) T.b_len PySem.boot_len (pa_cons (pe_make T.mk_Schema (ok_Schema__init T) (hr.mono (by decide)) rfl T.m_Schema T.a_Schema__init .nil passL (pa_cons (pe_joinR pe_str (pe_slice sl_listS (pv 9) po_none (po_some pe_int))) pa_nil)) pa_nil)) pe_int (nomark _)) (pe_one (pe_cmpR op_eq (pe_callB call_len_seq (by rfl) T.b_len PySem.boot_len (pa_cons (pe_meth0 (pe_make T.mk_Schema (ok_Schema__init T) (hr.mono (by decide)) rfl T.m_Schema T.a_Schema__init .nil passL (pa_cons (pe_joinR pe_str (pv 10)) pa_nil)) T.c_Schema T.t_Schema_heads (ok_Schema_heads T) (hr.mono (by decide)) T.a_Schema_heads .nil pass0 ) pa_nil)) (pe_op op_add pe_int (pe_bm PySem.F.plainAttrs_list PySem.F.slot_list_count PySem.F.type_list_count mt_lcountS (pe_slice sl_listS (pv 5) po_none (po_some pe_int)) (pa_cons pe_str pa_nil))) (nomark _)))))
      pss_nil))))))))))))), ?_⟩
    refine st_set ?_
    refine x_call ?_
    refine x_cons ?_
    refine ⟨_, rfl, ?_⟩
    refine x_cons ?_
    refine EV.goA (K := K) (en := (eL D.str)) (x0 := (["", "k_", "q_"] : (List Str))) (ev_lst (ds := [D.str "", D.str "k_", D.str "q_"]) (eva_cons ev_str (eva_cons ev_str (eva_cons ev_str eva_nil))) (Nat.le_of_ble_eq_true rfl)) g.wd fun d e v2 H3 wd2 s3 h3 => ?_
    have hw := hw d e
    have g2 := g.same s3
    have hS := hS.same s3
    refine x_nil ?_
    refine ⟨mxM M0 [], st, Y, n, (eL D.str) d, _, _, rfl, g2.wd, fun y hy => .inl (g2.ys y hy), hS, ⟨_, _, rfl, h3, rfl⟩, of_gen (en := D.str) (xs := d) (.inl rfl) hw, fun dd v4 n3 H5 hw wd4 b2 hS3 h5 => ?_⟩
    obtain ⟨start3, rfl, hw⟩ := hw
    have g3 := g2.call wd4 b2
    have l := Gd.lx_call g2 b2
    cases (show v4 = (V.str start3) from h5)
    try dsimp only [gName]
    refine st_norm (σ' := [some (V.ref st), some (V.str start3), none, none, none, none, none, none, none, none, none]) rfl ?_
    refine st_asgT ?_
    refine x_call ?_
    refine x_cons ?_
    refine ⟨_, rfl, ?_⟩
    refine x_cons ?_
    refine EV.go (K := K) (d := (.im (D.str start3))) (ev_vs (i := 1) rfl) g3.wd fun v6 H7 wd6 s5 h7 => ?_
    have g4 := g3.same s5
    have hS4 := hS3.same s5
    cases (show v6 = (V.str start3) from h7)
    refine x_nil ?_
    refine ⟨mxM M0 [], st, Y, n3, start3, _, _, rfl, g4.wd, fun y hy => .inl (g4.ys y hy), hS4, ⟨_, _, rfl, rfl, rfl⟩, hw, fun d2 v7 n4 H8 hw wd7 b3 hS5 h8 => ?_⟩
    have g5 := g4.call wd7 b3
    have l2 := Gd.lx_call g4 b3
    have h8 : rV K (mxM M0 []) H8 (.im ((eP2 (eL D.str) (eO D.int)) d2)) v7 := h8
    refine g_tup2 (d1 := (eL D.str) d2.1) (d2 := (eO D.int) d2.2) h8 fun v8 v9 h9 h10 => ?_
    obtain ⟨lines, e2⟩ : ∃ z_ : (List Str), z_ = d2.1 := ⟨_, rfl⟩
    have hw := hw lines e2
    rw [← e2] at h9
    have h9 : rV K (mxM M0 []) H8 (.im ((eL D.str) lines)) v8 := h9
    obtain ⟨first, e3⟩ : ∃ z_ : (Option Int), z_ = d2.2 := ⟨_, rfl⟩
    have hw := hw first e3
    rw [← e3] at h10
    have h10 : rV K (mxM M0 []) H8 (.im ((eO D.int) first)) v9 := h10
    try dsimp only [gName]
    refine st_norm (σ' := [some (V.ref st), some (V.str start3), some v8, some v9, none, none, none, none, none, none, none]) rfl ?_
    refine st_if ?_
    obtain ⟨c, c2, hw⟩ := hw
    refine EVT.go (b := (!decide ((refusedS (Txt.join "\n" lines)) = first))) (evt_test (K := K) (ev_op (ev_call (eva_cons (ev_m1 ev_str (ev_var (d := (.im ((eL D.str) lines))) (i := 2) rfl h9) (md_join (ys := lines) (.inl LsOf.im) c)) eva_nil) (cd_l_refused (Txt.join "\n" lines) c2)) (ev_var (d := (.im ((eO D.int) first))) (i := 3) rfl h10) (od_neD (en := eO D.int) (x := (refusedS (Txt.join "\n" lines))) (y := first) inj_OI (shp_OI _) (shp_OI _) DvOf.im DvOf.im))) g5.wd fun H9 wd8 s6 => ?_
    have g6 := g5.same s6
    have hS6 := hS5.same s6
    refine wite hw (fun hw => ?_) (fun hw => ?_)
    · skip
      refine st_ret ?_
      refine EV.go (K := K) (d := (.im (D.bl false))) ev_bl g6.wd fun v10 H10 wd9 s7 h11 => ?_
      have g7 := g6.same s7
      have hS7 := hS6.same s7
      exact kk _ _ _ _ hw g7.w_end g7.bu hS7 (rV.lx Gd.lx_end h11)
    · skip
      refine Lf.st_next ?_
      refine st_if ?_
      have h12 : rV K (mxM M0 []) H9 (.im ((eO D.int) first)) v9 := (h10.same s6)
      have h13 : rV K (mxM M0 []) H9 (.im ((eL D.str) lines)) v8 := (h9.same s6)
      obtain ⟨c3, c4, c5, hw⟩ := hw
      refine EVT.go (b := ((!first.isNone) && (!(refusedS (Txt.join "\n" (cutD lines none (some (getO first))))).isNone))) (evt_and (evt_test (K := K) (ev_op (ev_var (d := (.im ((eO D.int) first))) (i := 3) rfl h12) ev_non (od_notNO (en := D.int) (fun _ => rfl)))) fun hb => (evt_test (K := K) (ev_op (ev_call (eva_cons (ev_m1 ev_str (ev_slLm (en := D.str) (xs := lines) LsOf.im (ev_var (d := (.im ((eL D.str) lines))) (i := 2) rfl h13) evo_none (evo_some (K := K) (ev_getO (en := D.int) (ev_var (d := (.im ((eO D.int) first))) (i := 3) rfl h12) (c3 hb)))) (md_join (ys := (cutD lines none (some (getO first)))) (.inl LsOf.im) (c4 hb))) eva_nil) (cd_l_refused (Txt.join "\n" (cutD lines none (some (getO first)))) (c5 hb))) ev_non (od_notNO (en := D.int) (fun _ => rfl))))) g6.wd fun H11 wd10 s8 => ?_
      have g8 := g6.same s8
      have hS8 := hS6.same s8
      refine wite hw (fun hw => ?_) (fun hw => ?_)
      · skip
        refine st_ret ?_
        refine EV.go (K := K) (d := (.im (D.bl false))) ev_bl g8.wd fun v11 H12 wd11 s9 h14 => ?_
        have g9 := g8.same s9
        have hS9 := hS8.same s9
        exact kk _ _ _ _ hw g9.w_end g9.bu hS9 (rV.lx Gd.lx_end h14)
      · skip
        refine Lf.st_next ?_
        refine st_if ?_
        have h15 : rV K (mxM M0 []) H11 (.im ((eO D.int) first)) v9 := (h12.same s8)
        have h16 : rV K (mxM M0 []) H11 (.im ((eL D.str) lines)) v8 := (h13.same s8)
        obtain ⟨c6, c7, c8, hw⟩ := hw
        refine EVT.go (b := ((!first.isNone) && (!decide ((refusedS (Txt.join "\n" (lines ++ (["zzz* a=1"] : (List Str))))) = first)))) (evt_and (evt_test (K := K) (ev_op (ev_var (d := (.im ((eO D.int) first))) (i := 3) rfl h15) ev_non (od_notNO (en := D.int) (fun _ => rfl)))) fun hb2 => (evt_test (K := K) (ev_op (ev_call (eva_cons (ev_m1 ev_str (ev_op (ev_var (d := (.im ((eL D.str) lines))) (i := 2) rfl h16) (ev_lst (ds := [D.str "zzz* a=1"]) (eva_cons ev_str eva_nil) (Nat.le_of_ble_eq_true rfl)) (od_catm (en := D.str) (xs := lines) (ys := (["zzz* a=1"] : (List Str))) LsOf.im LsOf.im (c6 hb2))) (md_join (ys := (lines ++ (["zzz* a=1"] : (List Str)))) (.inl LsOf.im) (c7 hb2))) eva_nil) (cd_l_refused (Txt.join "\n" (lines ++ (["zzz* a=1"] : (List Str)))) (c8 hb2))) (ev_var (d := (.im ((eO D.int) first))) (i := 3) rfl h15) (od_neD (en := eO D.int) (x := (refusedS (Txt.join "\n" (lines ++ (["zzz* a=1"] : (List Str)))))) (y := first) inj_OI (shp_OI _) (shp_OI _) DvOf.im DvOf.im)))) g8.wd fun H13 wd12 s10 => ?_
        have g10 := g8.same s10
        have hS10 := hS8.same s10
        refine wite hw (fun hw => ?_) (fun hw => ?_)
        · skip
          refine st_ret ?_
          refine EV.go (K := K) (d := (.im (D.bl false))) ev_bl g10.wd fun v12 H14 wd13 s11 h17 => ?_
          have g11 := g10.same s11
          have hS11 := hS10.same s11
          exact kk _ _ _ _ hw g11.w_end g11.bu hS11 (rV.lx Gd.lx_end h17)
        · skip
          refine Lf.st_next ?_
          refine st_set ?_
          refine EV.goA (K := K) (en := (eL D.str)) (x0 := (["a", "b", "c", "d", "e", "f"] : (List Str))) (ev_lst (ds := [D.str "a", D.str "b", D.str "c", D.str "d", D.str "e", D.str "f"]) (eva_cons ev_str (eva_cons ev_str (eva_cons ev_str (eva_cons ev_str (eva_cons ev_str (eva_cons ev_str eva_nil)))))) (Nat.le_of_ble_eq_true rfl)) g10.wd fun names e4 v13 H15 wd14 s12 h18 => ?_
          have hw := hw names e4
          have g12 := g10.same s12
          have hS12 := hS10.same s12
          try dsimp only [gName]
          refine st_norm (σ' := [some (V.ref st), some (V.str start3), some v8, some v9, some v13, none, none, none, none, none, none]) rfl ?_
          refine st_set ?_
          refine x_lc ?_
          refine EVI.gom (K := K) (en := D.str) (xs := names) (evi_list (es := List.map D.str names) (ev_var (d := (.im ((eL D.str) names))) (i := 4) rfl h18)) g12.wd fun J H16 wd15 s13 wk => ?_
          have g13 := g12.same s13
          have hS13 := hS12.same s13
          refine fun p np => ?_
          have s14 := Same.new (o := .lst []) np
          have ex := Gd.ex_new (M0 := M0) (Ls := []) s14 np
          have g14 := g13.new s14 np (upd_same (H := H16) (o := .lst []))
          have hS14 := hS13.same s14
          have h19 : rV K (mxM M0 [p]) (upd H16 p (.lst [])) (.mu p (List.map D.str ([] : (List Str)))) (V.ref p) := ⟨rfl, [], (upd_same (H := H16) (o := .lst [])), rDs.mono ex.lx _ _ (show rDs K _ [] [] from rfl)⟩
          obtain ⟨Inv, hI2, hI3, hI4⟩ := hw
          refine lc_itx wk (fun i H' => ∃ (acc : (List Str)) (n5 : Nat), Gd M0 [p] Y H H' ∧ Lx (mxM M0 [p]) (mxM M0 [p]) (upd H16 p (.lst [])) H' ∧ rV K (mxM M0 [p]) H' (.mu p (List.map D.str acc)) (V.ref p) ∧ SMB H' st Y n5 ∧ Inv i acc n5) ⟨[], n4, g14, Lx.refl, h19, hS14, hI2⟩ (fun i H' _ ⟨_, _, _, hl, _⟩ => ⟨_, ex.lx.trans hl⟩) ?_ ?_
          · rintro i x2 H17 H18 hi ⟨acc, n5, g15, l3, h20, hS15, hI⟩ yd
            obtain ⟨name, hy, s15, hr2⟩ := yd_map yd
            have hw := hI3 i name acc n5 hy hI
            have hr2 := hr2 _ g15.wd (ex.lx.trans l3)
            have g16 := g15.same s15
            have h21 := rV.same s15 h20
            have hS16 := hS15.same s15
            cases (show x2 = (V.str name) from hr2)
            refine ⟨rfl, ?_⟩
            refine x_yes ?_
            refine x_call ?_
            refine x_cons ?_
            refine ⟨_, rfl, ?_⟩
            refine x_cons ?_
            refine EV.goA (K := K) (en := (eL D.str)) (x0 := (["*", "*", "!"] : (List Str))) (ev_lst (ds := [D.str "*", D.str "*", D.str "!"]) (eva_cons ev_str (eva_cons ev_str (eva_cons ev_str eva_nil))) (Nat.le_of_ble_eq_true rfl)) g16.wd fun d3 e5 v15 H20 wd17 s17 h23 => ?_
            have hw := hw d3 e5
            have g17 := g16.same s17
            have h24 := rV.same s17 h21
            have hS17 := hS16.same s17
            refine x_nil ?_
            refine ⟨mxM M0 [p], st, Y, n5, (eL D.str) d3, _, _, rfl, g17.wd, fun y hy => .inl (g17.ys y hy), hS17, ⟨_, _, rfl, h23, rfl⟩, of_gen (en := D.str) (xs := d3) (.inl rfl) hw, fun dd2 v17 n7 H22 hw wd19 b5 hS19 h26 => ?_⟩
            obtain ⟨r2, rfl, hw⟩ := hw
            have g18 := g17.call wd19 b5
            have l4 := Gd.lx_call g17 b5
            have h27 := mu_call h24 rfl g17 (by simp) b5
            cases (show v17 = (V.str r2) from h26)
            obtain ⟨c9, hw⟩ := hw
            refine x_push (N := (fun i H' => ∃ (acc : (List Str)) (n5 : Nat), Gd M0 [p] Y H H' ∧ Lx (mxM M0 [p]) (mxM M0 [p]) (upd H16 p (.lst [])) H' ∧ rV K (mxM M0 [p]) H' (.mu p (List.map D.str acc)) (V.ref p) ∧ SMB H' st Y n5 ∧ Inv i acc n5) (i + 1)) (en := D.str) (x := r2) h27 rfl (by simp) c9 fun H5_ ⟨vs5_, eu5_⟩ h5_ => ?_
            subst eu5_
            have g19 : Gd M0 [p] Y H (upd H22 p (.lst vs5_)) := g18.upd (by simp)
            have l5 : Lx (mxM M0 [p]) (mxM M0 [p]) H22 (upd H22 p (.lst vs5_)) := Gd.lx_upd (by simp)
            have hS20 : SMB (upd H22 p (.lst vs5_)) st Y n7 := hS19.updL (g18.noY (by simp))
            exact ⟨_, _, g19, ((((l3.trans (Lx.same s15)).trans (Lx.same s17)).trans l4).trans l5), h5_, hS20, hw⟩
          rintro H23 ⟨acc, n5, g20, l6, h28, hS21, hI5⟩
          have hw := hI4 acc n5 hI5
          have h29 : rV K (mxM M0 []) H23 (.im ((eL D.str) acc)) (V.ref p) := mu_frzp h28 g20 (i := 0) rfl [] (by decide) rfl
          have g21 := g20.pick [] (Ls' := []) (by decide) rfl
          have l7 : Lx (mxM M0 [p]) (mxM M0 []) H23 H23 := Gd.lx_pick [] rfl
          try dsimp only [gName]
          refine st_norm (σ' := [some (V.ref st), some (V.str start3), some v8, some v9, some v13, some (V.ref p), none, none, none, none, none]) rfl ?_
          refine st_set ?_
          obtain ⟨c10, hw⟩ := hw
          refine EV.goA (K := K) (en := (eL D.str)) (x0 := ((enumI acc).map fun (z : (Int × Str)) => (if (decide (z.1 < 2)) = true then z.2 else "*"))) (ev_lcmm (fd := fun (z : (Int × Str)) => (if (decide (z.1 < 2)) = true then z.2 else "*")) (en2 := D.str) (xs := (enumI acc)) (en := (eP2 D.int D.str)) (evi_enum (en := D.str) (xs := acc) (eva_cons (ev_var (d := (.im ((eL D.str) acc))) (i := 5) rfl h29) eva_nil)) GI.ex gm_tup2 c10 (fun z hy2 M H24 v20 wd20 ex2 h32 => g_tup2 (d1 := D.int z.1) (d2 := D.str z.2) h32 fun v18 v19 h30 h31 => ⟨rfl, rfl, (ev_if (en := fun z => .im (D.str z)) (x := z.2) (y := "*") (evt_test (K := K) (ev_op (ev_var (d := (.im (D.int z.1))) (i := 7) rfl h30) ev_int od_lt)) (fun hb3 => (ev_var (d := (.im (D.str z.2))) (i := 8) rfl h31)) fun hb4 => ev_str)⟩)) g21.wd fun marks2 e6 v21 H25 wd21 s18 h33 => ?_
          have hw := hw marks2 e6
          have g22 := g21.same s18
          have hS22 := hS21.same s18
          try dsimp only [gName]
          refine st_norm (σ' := [some (V.ref st), some (V.str start3), some v8, some v9, some v13, some v21, none, none, none, none, none]) rfl ?_
          refine st_set ?_
          have h34 : rV K (mxM M0 []) H25 (.im ((eL D.str) names)) v13 := ((rV.lx l7 (rV.lx l6 ((h18.same s13).ex ex))).same s18)
          obtain ⟨c11, c12, c13, c14, hw⟩ := hw
          refine EV.goA (K := K) (en := (eL D.str)) (x0 := ((["r x=1"] : (List Str)) ++ ((names.zip marks2).map fun (z2 : (Str × Str)) => ((z2.1 ++ z2.2) ++ " x=1")))) (ev_op (ev_lst (ds := [D.str "r x=1"]) (eva_cons ev_str eva_nil) (Nat.le_of_ble_eq_true rfl)) (ev_lcmm (fd := fun (z2 : (Str × Str)) => ((z2.1 ++ z2.2) ++ " x=1")) (en2 := D.str) (xs := (names.zip marks2)) (en := (eP2 D.str D.str)) (evi_zip (d := .im .non) (e := .im .non) (en := D.str) (en' := D.str) (xs := names) (ys := marks2) (eva_cons (ev_var (d := (.im ((eL D.str) names))) (i := 4) rfl h34) (eva_cons (ev_var (d := (.im ((eL D.str) marks2))) (i := 5) rfl h33) eva_nil))) GI.ex gm_tup2 c11 (fun z2 hy3 M2 H26 v24 wd22 ex3 h37 => g_tup2 (d1 := D.str z2.1) (d2 := D.str z2.2) h37 fun v22 v23 h35 h36 => ⟨rfl, rfl, (ev_op (ev_op (ev_var (d := (.im (D.str z2.1))) (i := 6) rfl h35) (ev_var (d := (.im (D.str z2.2))) (i := 8) rfl h36) (od_addS (c12 z2 hy3))) ev_str (od_addS (c13 z2 hy3)))⟩)) (od_catm (en := D.str) (xs := (["r x=1"] : (List Str))) (ys := ((names.zip marks2).map fun (z2 : (Str × Str)) => ((z2.1 ++ z2.2) ++ " x=1"))) LsOf.im LsOf.im c14)) g22.wd fun rows e7 v25 H27 wd23 s19 h38 => ?_
          have hw := hw rows e7
          have g23 := g22.same s19
          have hS23 := hS22.same s19
          try dsimp only [gName]
          refine st_norm (σ' := [some (V.ref st), some (V.str start3), some v8, some v9, some v13, some v21, none, none, none, some v25, none]) rfl ?_
          refine st_if ?_
          obtain ⟨c15, c16, c17, c18, hw⟩ := hw
          refine EVT.go (b := ((!(refusedS (Txt.join "\n" (cutD rows none (some 6)))).isNone) || (!decide ((refusedS (Txt.join "\n" rows)) = (some 6))))) (evt_or (evt_test (K := K) (ev_op (ev_call (eva_cons (ev_m1 ev_str (ev_slLm (en := D.str) (xs := rows) LsOf.im (ev_var (d := (.im ((eL D.str) rows))) (i := 9) rfl h38) evo_none (evo_some (K := K) ev_int)) (md_join (ys := (cutD rows none (some 6))) (.inl LsOf.im) c15)) eva_nil) (cd_l_refused (Txt.join "\n" (cutD rows none (some 6))) c16)) ev_non (od_notNO (en := D.int) (fun _ => rfl)))) fun hb5 => (evt_test (K := K) (ev_op (ev_call (eva_cons (ev_m1 ev_str (ev_var (d := (.im ((eL D.str) rows))) (i := 9) rfl h38) (md_join (ys := rows) (.inl LsOf.im) (c17 hb5))) eva_nil) (cd_l_refused (Txt.join "\n" rows) (c18 hb5))) ev_int (od_neD (en := eO D.int) (x := (refusedS (Txt.join "\n" rows))) (y := (some 6)) inj_OI (shp_OI _) (shp_OI _) DvOf.im DvOf.im)))) g23.wd fun H28 wd24 s20 => ?_
          have g24 := g23.same s20
          have hS24 := hS23.same s20
          refine wite hw (fun hw => ?_) (fun hw => ?_)
          · skip
            refine st_ret ?_
            refine EV.go (K := K) (d := (.im (D.bl false))) ev_bl g24.wd fun v26 H29 wd25 s21 h39 => ?_
            have g25 := g24.same s21
            have hS25 := hS24.same s21
            exact kk _ _ _ _ hw g25.w_end g25.bu hS25 (rV.lx Gd.lx_end h39)
          · skip
            refine Lf.st_next ?_
            refine st_set ?_
            refine x_lst ?_
            refine x_cons ?_
            refine EV.go (K := K) (d := (.im (D.str "r x=1"))) ev_str g24.wd fun v27 H30 wd26 s22 h40 => ?_
            have g26 := g24.same s22
            have hS26 := hS24.same s22
            cases (show v27 = (V.str "r x=1") from h40)
            refine x_cons ?_
            refine x_op ?_
            refine EV.go (K := K) (d := (.im (D.str "a* x="))) ev_str g26.wd fun v28 H31 wd27 s23 h41 => ?_
            have g27 := g26.same s23
            have hS27 := hS26.same s23
            cases (show v28 = (V.str "a* x=") from h41)
            refine x_cb ?_
            refine x_cons ?_
            refine x_op ?_
            refine EV.go (K := K) (d := (.im (D.int 1))) ev_int g27.wd fun v29 H32 wd28 s24 h42 => ?_
            have g28 := g27.same s24
            have hS28 := hS27.same s24
            cases (show v29 = (V.int 1) from h42)
            refine x_call ?_
            refine x_cons ?_
            refine ⟨_, rfl, ?_⟩
            refine x_cons ?_
            refine EV.go (K := K) (d := (.im (D.int 3))) ev_int g28.wd fun v31 H34 wd30 s26 h44 => ?_
            have g29 := g28.same s26
            have hS29 := hS28.same s26
            cases (show v31 = (V.int 3) from h44)
            refine x_nil ?_
            refine ⟨mxM M0 [], st, Y, n5, 3, _, _, rfl, g29.wd, fun y hy => .inl (g29.ys y hy), hS29, ⟨_, _, rfl, rfl, rfl⟩, hw, fun r3 v32 n8 H35 hw wd31 b6 hS30 h45 => ?_⟩
            have g30 := g29.call wd31 b6
            have l8 := Gd.lx_call g29 b6
            cases (show v32 = (V.int r3) from h45)
            refine opd_go (K := K) (d := (.im (D.int 1))) (e := (.im (D.int r3))) (f := .im (D.int (1 + r3))) od_add g30.wd rfl rfl fun v33 H36 wd32 s27 h46 => ?_
            have g31 := g30.same s27
            have hS31 := hS30.same s27
            cases (show v33 = (V.int (1 + r3)) from h46)
            refine x_nil ?_
            obtain ⟨c19, hw⟩ := hw
            refine ⟨_, rfl, c19, ?_⟩
            obtain ⟨c20, hw⟩ := hw
            refine opd_go (K := K) (d := (.im (D.str "a* x="))) (e := (.im (D.str (Str.ofString (toString ((1 + r3) : Int)))))) (f := .im (D.str ("a* x=" ++ (Str.ofString (toString ((1 + r3) : Int)))))) (od_addS c20) g31.wd rfl rfl fun v34 H37 wd33 s28 h47 => ?_
            have g32 := g31.same s28
            have hS32 := hS31.same s28
            cases (show v34 = (V.str ("a* x=" ++ (Str.ofString (toString ((1 + r3) : Int))))) from h47)
            refine x_cons ?_
            have h48 : rV K (mxM M0 []) H37 (.im ((eL D.str) marks2)) v21 := (((rV.lx l8 ((((((h33.same s19).same s20).same s22).same s23).same s24).same s26)).same s27).same s28)
            obtain ⟨c21, c22, c23, hw⟩ := hw
            refine EV.go (K := K) (d := (.im (D.str (("a_b" ++ (ixD marks2 0)) ++ " x=1")))) (ev_op (ev_op ev_str (ev_op (ev_var (d := (.im ((eL D.str) marks2))) (i := 5) rfl h48) ev_int (od_ixLm (en := D.str) (xs := marks2) LsOf.im c21)) (od_addS c22)) ev_str (od_addS c23)) g32.wd fun v35 H38 wd34 s29 h49 => ?_
            have g33 := g32.same s29
            have hS33 := hS32.same s29
            cases (show v35 = (V.str (("a_b" ++ (ixD marks2 0)) ++ " x=1")) from h49)
            refine x_cons ?_
            have h50 : rV K (mxM M0 []) H38 (.im ((eL D.str) marks2)) v21 := (h48.same s29)
            obtain ⟨c24, c25, c26, hw⟩ := hw
            refine EV.go (K := K) (d := (.im (D.str (("a_b_c" ++ (ixD marks2 1)) ++ " x=1")))) (ev_op (ev_op ev_str (ev_op (ev_var (d := (.im ((eL D.str) marks2))) (i := 5) rfl h50) ev_int (od_ixLm (en := D.str) (xs := marks2) LsOf.im c24)) (od_addS c25)) ev_str (od_addS c26)) g33.wd fun v36 H39 wd35 s30 h51 => ?_
            have g34 := g33.same s30
            have hS34 := hS33.same s30
            cases (show v36 = (V.str (("a_b_c" ++ (ixD marks2 1)) ++ " x=1")) from h51)
            refine x_nil ?_
            refine ⟨(by show 4 ≤ sizeLine; decide), fun p2 H40 np2 s31 hp2 => ?_⟩
            have h52 : rV K (mxM M0 []) H40 (.im ((eL D.str) (["r x=1", ("a* x=" ++ (Str.ofString (toString ((1 + r3) : Int)))), (("a_b" ++ (ixD marks2 0)) ++ " x=1"), (("a_b_c" ++ (ixD marks2 1)) ++ " x=1")] : (List Str)))) (V.ref p2) := (show rD K _ (.lst [D.str "r x=1", D.str ("a* x=" ++ (Str.ofString (toString ((1 + r3) : Int)))), D.str (("a_b" ++ (ixD marks2 0)) ++ " x=1"), D.str (("a_b_c" ++ (ixD marks2 1)) ++ " x=1")]) _ from ⟨_, _, rfl, g34.wd.new np2 hp2, rDs.same (show rDs K _ [D.str "r x=1", D.str ("a* x=" ++ (Str.ofString (toString ((1 + r3) : Int)))), D.str (("a_b" ++ (ixD marks2 0)) ++ " x=1"), D.str (("a_b_c" ++ (ixD marks2 1)) ++ " x=1")] _ from ⟨_, _, rfl, rfl, ⟨_, _, rfl, rfl, ⟨_, _, rfl, rfl, ⟨_, _, rfl, rfl, rfl⟩⟩⟩⟩) s31⟩)
            have g35 := g34.same s31
            have hS35 := hS34.same s31
            try dsimp only [gName]
            refine st_norm (σ' := [some (V.ref st), some (V.str start3), some v8, some v9, some v13, some v21, none, none, none, some v25, some (V.ref p2)]) rfl ?_
            refine st_if ?_
            obtain ⟨c27, c28, c29, c30, c31, hw⟩ := hw
            refine EVT.go (b := ((!(refusedS (Txt.join "\n" (["r x=1", ("a* x=" ++ (Str.ofString (toString ((1 + r3) : Int)))), (("a_b" ++ (ixD marks2 0)) ++ " x=1"), (("a_b_c" ++ (ixD marks2 1)) ++ " x=1")] : (List Str)))).isNone) || (!decide ((refusedS (Txt.join "\n" ((["r x=1", ("a* x=" ++ (Str.ofString (toString ((1 + r3) : Int)))), (("a_b" ++ (ixD marks2 0)) ++ " x=1"), (("a_b_c" ++ (ixD marks2 1)) ++ " x=1")] : (List Str)) ++ (["a_b_c_d* x=1"] : (List Str))))) = (some 4))))) (evt_or (evt_test (K := K) (ev_op (ev_call (eva_cons (ev_m1 ev_str (ev_var (d := (.im ((eL D.str) (["r x=1", ("a* x=" ++ (Str.ofString (toString ((1 + r3) : Int)))), (("a_b" ++ (ixD marks2 0)) ++ " x=1"), (("a_b_c" ++ (ixD marks2 1)) ++ " x=1")] : (List Str))))) (i := 10) rfl h52) (md_join (ys := (["r x=1", ("a* x=" ++ (Str.ofString (toString ((1 + r3) : Int)))), (("a_b" ++ (ixD marks2 0)) ++ " x=1"), (("a_b_c" ++ (ixD marks2 1)) ++ " x=1")] : (List Str))) (.inl LsOf.im) c27)) eva_nil) (cd_l_refused (Txt.join "\n" (["r x=1", ("a* x=" ++ (Str.ofString (toString ((1 + r3) : Int)))), (("a_b" ++ (ixD marks2 0)) ++ " x=1"), (("a_b_c" ++ (ixD marks2 1)) ++ " x=1")] : (List Str))) c28)) ev_non (od_notNO (en := D.int) (fun _ => rfl)))) fun hb6 => (evt_test (K := K) (ev_op (ev_call (eva_cons (ev_m1 ev_str (ev_op (ev_var (d := (.im ((eL D.str) (["r x=1", ("a* x=" ++ (Str.ofString (toString ((1 + r3) : Int)))), (("a_b" ++ (ixD marks2 0)) ++ " x=1"), (("a_b_c" ++ (ixD marks2 1)) ++ " x=1")] : (List Str))))) (i := 10) rfl h52) (ev_lst (ds := [D.str "a_b_c_d* x=1"]) (eva_cons ev_str eva_nil) (Nat.le_of_ble_eq_true rfl)) (od_catm (en := D.str) (xs := (["r x=1", ("a* x=" ++ (Str.ofString (toString ((1 + r3) : Int)))), (("a_b" ++ (ixD marks2 0)) ++ " x=1"), (("a_b_c" ++ (ixD marks2 1)) ++ " x=1")] : (List Str))) (ys := (["a_b_c_d* x=1"] : (List Str))) LsOf.im LsOf.im (c29 hb6))) (md_join (ys := ((["r x=1", ("a* x=" ++ (Str.ofString (toString ((1 + r3) : Int)))), (("a_b" ++ (ixD marks2 0)) ++ " x=1"), (("a_b_c" ++ (ixD marks2 1)) ++ " x=1")] : (List Str)) ++ (["a_b_c_d* x=1"] : (List Str)))) (.inl LsOf.im) (c30 hb6))) eva_nil) (cd_l_refused (Txt.join "\n" ((["r x=1", ("a* x=" ++ (Str.ofString (toString ((1 + r3) : Int)))), (("a_b" ++ (ixD marks2 0)) ++ " x=1"), (("a_b_c" ++ (ixD marks2 1)) ++ " x=1")] : (List Str)) ++ (["a_b_c_d* x=1"] : (List Str)))) (c31 hb6))) ev_int (od_neD (en := eO D.int) (x := (refusedS (Txt.join "\n" ((["r x=1", ("a* x=" ++ (Str.ofString (toString ((1 + r3) : Int)))), (("a_b" ++ (ixD marks2 0)) ++ " x=1"), (("a_b_c" ++ (ixD marks2 1)) ++ " x=1")] : (List Str)) ++ (["a_b_c_d* x=1"] : (List Str)))))) (y := (some 4)) inj_OI (shp_OI _) (shp_OI _) DvOf.im DvOf.im)))) g35.wd fun H41 wd36 s32 => ?_
            have g36 := g35.same s32
            have hS36 := hS35.same s32
            refine wite hw (fun hw => ?_) (fun hw => ?_)
            · skip
              refine st_ret ?_
              refine EV.go (K := K) (d := (.im (D.bl false))) ev_bl g36.wd fun v37 H42 wd37 s33 h53 => ?_
              have g37 := g36.same s33
              have hS37 := hS36.same s33
              exact kk _ _ _ _ hw g37.w_end g37.bu hS37 (rV.lx Gd.lx_end h53)
            · skip
              refine Lf.st_next ?_
              refine st_ret ?_
              have h54 : rV K (mxM M0 []) H41 (.im ((eL D.str) rows)) v25 := (((((((rV.lx l8 (((((h38.same s20).same s22).same s23).same s24).same s26)).same s27).same s28).same s29).same s30).same s31).same s32)
              have h55 : rV K (mxM M0 []) H41 (.im ((eL D.str) (["r x=1", ("a* x=" ++ (Str.ofString (toString ((1 + r3) : Int)))), (("a_b" ++ (ixD marks2 0)) ++ " x=1"), (("a_b_c" ++ (ixD marks2 1)) ++ " x=1")] : (List Str)))) (V.ref p2) := (h52.same s32)
              have h56 : rV K (mxM M0 []) H41 (.im ((eL D.str) marks2)) v21 := (((h50.same s30).same s31).same s32)
              obtain ⟨c36, c37, c38, c39, c49, c50, c51, hw⟩ := hw
              refine EV.go (K := K) (d := (.im (D.bl ((decide ((Sch.len (schOf (Txt.join "\n" (cutD rows none (some 6))))) = 6)) && (decide (((Sch.heads (schOf (Txt.join "\n" (["r x=1", ("a* x=" ++ (Str.ofString (toString ((1 + r3) : Int)))), (("a_b" ++ (ixD marks2 0)) ++ " x=1"), (("a_b_c" ++ (ixD marks2 1)) ++ " x=1")] : (List Str))))).length : Int) = (2 + ((cutD marks2 none (some 2)).count (Str.ofString "*") : Int)))))))) (ev_and (ev_op (ev_cb (eva_cons (ev_mkSchema (eva_cons (ev_m1 ev_str (ev_slLm (en := D.str) (xs := rows) LsOf.im (ev_var (d := (.im ((eL D.str) rows))) (i := 9) rfl h54) evo_none (evo_some (K := K) ev_int)) (md_join (ys := (cutD rows none (some 6))) (.inl LsOf.im) c36)) eva_nil) c37) eva_nil) (cd_lenOwn (cd_Schema__len (schOf (Txt.join "\n" (cutD rows none (some 6)))) True.intro) c38 c39)) ev_int od_eqI) fun hb7 => (ev_op (ev_cb (eva_cons (ev_meth (ev_mkSchema (eva_cons (ev_m1 ev_str (ev_var (d := (.im ((eL D.str) (["r x=1", ("a* x=" ++ (Str.ofString (toString ((1 + r3) : Int)))), (("a_b" ++ (ixD marks2 0)) ++ " x=1"), (("a_b_c" ++ (ixD marks2 1)) ++ " x=1")] : (List Str))))) (i := 10) rfl h55) (md_join (ys := (["r x=1", ("a* x=" ++ (Str.ofString (toString ((1 + r3) : Int)))), (("a_b" ++ (ixD marks2 0)) ++ " x=1"), (("a_b_c" ++ (ixD marks2 1)) ++ " x=1")] : (List Str))) (.inl LsOf.im) (c49 hb7))) eva_nil) (c50 hb7)) (by decide) eva_nil (cd_Schema_heads (schOf (Txt.join "\n" (["r x=1", ("a* x=" ++ (Str.ofString (toString ((1 + r3) : Int)))), (("a_b" ++ (ixD marks2 0)) ++ " x=1"), (("a_b_c" ++ (ixD marks2 1)) ++ " x=1")] : (List Str)))) (c51 hb7))) eva_nil) (cd_lenm (en := D.str) (xs := (Sch.heads (schOf (Txt.join "\n" (["r x=1", ("a* x=" ++ (Str.ofString (toString ((1 + r3) : Int)))), (("a_b" ++ (ixD marks2 0)) ++ " x=1"), (("a_b_c" ++ (ixD marks2 1)) ++ " x=1")] : (List Str)))))) (.inl LsOf.im))) (ev_op ev_int (ev_bm (es := List.map D.str (cutD marks2 none (some 2))) (ev_slLm (en := D.str) (xs := marks2) LsOf.im (ev_var (d := (.im ((eL D.str) marks2))) (i := 5) rfl h56) evo_none (evo_some (K := K) ev_int)) LsOf.im (eva_cons ev_str eva_nil) (md_countS (xs := (cutD marks2 none (some 2))) (x := (Str.ofString "*")) LsOf.im)) od_add) od_eqI)) g36.wd fun v38 H43 wd38 s34 h57 => ?_
              have g38 := g36.same s34
              have hS38 := hS36.same s34
              exact kk _ _ _ _ hw g38.w_end g38.bu hS38 (rV.lx Gd.lx_end h57)

end
end Toy

set_option Elab.async false
set_option linter.all false
set_option maxRecDepth 100000
set_option maxHeartbeats 4000000
set_option pp.maxSteps 300
set_option pp.deepTerms false
namespace Toy
open PySem L2 Lf
section
variable {P : Program} {w : World} {K : PySem.W.Frag} {mg : Str → Option Value} {base : Heap} {a : Ad}

def chkK (t : Str) : Bool := match parseS t with
  | .ok s => s.has "" && decide ((s.group "").length ≤ 4) && (s.group "").all (fun q => hasA s.fields q && decide (getA s.fields q ≠ []) && (decide (q = "") || (hasA s.marks q && decide (q.length ≤ 1000)))) && decide ((s.parts "").length = 16)
  | .error _ => false
theorem chk_ok : chkK "r a=3 b=3" = true ∧ chkK "r a=1\nc! d=3 e=1" = true := by decide +kernel
theorem chk_kinds {t : Str} (h : chkK t = true) (hl : t.length ≤ 1000) : pre_Schema t ∧ pre_kinds (schOf t) "" ∧ ((Sch.kinds (schOf t) "").length : Int) = 16 := by
  unfold chkK at h
  cases e : parseS t with
  | error y => rw [e] at h; cases h
  | ok s =>
    rw [e] at h
    simp only [Bool.and_eq_true, decide_eq_true_eq] at h
    obtain ⟨⟨⟨h1, h2⟩, h3⟩, h4⟩ := h
    refine ⟨⟨parseOk_any (by omega), _, e⟩, ?_, ?_⟩
    · rw [schOf_eq e]
      refine ⟨⟨h1, ?_⟩, h2, fun q hq => ?_⟩
      · obtain ⟨c0, rs, a, b, rfl⟩ := parse_wf e
        exact wfS_of a (by omega)
      · have := List.all_eq_true.mp h3 q hq
        simp only [Bool.and_eq_true, Bool.or_eq_true, decide_eq_true_eq] at this
        obtain ⟨⟨a, b⟩, c⟩ := this
        exact ⟨a, b, fun n => c.resolve_left n⟩
    · rw [schOf_eq e]
      unfold Sch.kinds
      rw [(sortT_perm _).length_eq, List.length_map, h4]
      rfl
def W_law_b2 (n2 : Nat) (P : Bool → Prop) (nx : Prop) (nx2 : Nat → Prop) : Prop :=
  S_right n2  (fun r n3 => (if (!r) = true then (P false) else (nx2 n3)))
def W_law_k2 (n2 : Nat) (P : Bool → Prop) (nx : Prop) : Prop :=
  nx
def W_law_b1 (at_ : Int) (P : Bool → Prop) (nx : Prop) : Prop :=
  (0 ≤ (at_ : Int)) ∧ ((at_ : Int) < 64) ∧ (-(2 ^ 62) ≤ (2 : Int)) ∧ ((2 : Int) < 2 ^ 62) ∧ ∃ Inv2 : Nat → Nat → Prop, Inv2 0 0 ∧ (∀ (i : Nat) (turn : Int) (n2 : Nat), (rngI 0 2)[i]? = some turn → Inv2 i n2 → W_law_b2 n2 P nx (Inv2 (i + 1))) ∧ (∀ (n2 : Nat), Inv2 (rngI 0 2).length n2 → W_law_k2 n2 P nx)
def W_law_k1 (P : Bool → Prop) : Prop :=
  (pre_Schema "r a=3 b=3") ∧ (pre_kinds (schOf "r a=3 b=3") "") ∧ ((!decide (((Sch.kinds (schOf "r a=3 b=3") "").length : Int) = 16)) = false → pre_Schema "r a=1\nc! d=3 e=1") ∧ ((!decide (((Sch.kinds (schOf "r a=3 b=3") "").length : Int) = 16)) = false → pre_kinds (schOf "r a=1\nc! d=3 e=1") "") ∧ (if ((!decide (((Sch.kinds (schOf "r a=3 b=3") "").length : Int) = 16)) || (!decide (((Sch.kinds (schOf "r a=1\nc! d=3 e=1") "").length : Int) = 16))) = true then (P false) else ((ParseOk "r a=3 b=3\nc! d=1") ∧ ((decide ((refusedS "r a=3 b=3\nc! d=1") = (some 1))) = true → ParseOk "r a=3\nc? d=3") ∧ P ((decide ((refusedS "r a=3 b=3\nc! d=1") = (some 1))) && (decide ((refusedS "r a=3\nc? d=3") = (some 1))))))
def W_law (sc : Nat) (P : Bool → Prop) : Prop :=
  (-(2 ^ 62) ≤ ((if 1 < (if (sc : Int) < 4 then (sc : Int) else 4) then (if (sc : Int) < 4 then (sc : Int) else 4) else 1) : Int)) ∧ (((if 1 < (if (sc : Int) < 4 then (sc : Int) else 4) then (if (sc : Int) < 4 then (sc : Int) else 4) else 1) : Int) < 2 ^ 62) ∧ ∃ Inv : Nat → Prop, Inv 0 ∧ (∀ (i : Nat) (at_ : Int), (rngI 0 (if 1 < (if (sc : Int) < 4 then (sc : Int) else 4) then (if (sc : Int) < 4 then (sc : Int) else 4) else 1))[i]? = some at_ → Inv i → W_law_b1 at_ P (Inv (i + 1))) ∧ (Inv (rngI 0 (if 1 < (if (sc : Int) < 4 then (sc : Int) else 4) then (if (sc : Int) < 4 then (sc : Int) else 4) else 1)).length → W_law_k1 P)
theorem dW_law {sc : Nat} (hs : sc ≤ 63) : W_law sc (fun r => r = true) := by
  have e3 : ∀ x : Int, (if 1 < (if x < 4 then x else 4) then (if x < 4 then x else 4) else 1) ≤ 4 := fun x => by split <;> split <;> omega
  have e1 : ∀ x : Int, 1 ≤ (if 1 < (if x < 4 then x else 4) then (if x < 4 then x else 4) else 1) := fun x => by split <;> omega
  unfold W_law
  have h3 := e3 sc
  have h1 := e1 sc
  generalize (if 1 < (if (sc : Int) < 4 then (sc : Int) else 4) then (if (sc : Int) < 4 then (sc : Int) else 4) else 1) = m at h3 h1 ⊢
  refine ⟨by omega, by omega, fun _ => True, trivial, fun i at_ hi _ => ?_, fun _ => ?_⟩
  · have ha := List.mem_of_getElem? hi
    have ha := rngI_mem.mp ha
    refine ⟨by omega, by omega, by omega, by omega, fun j x => x ≤ 300 * j, Nat.zero_le _, ?_, fun _ _ => trivial⟩
    rintro j turn x hj hx
    have jl := (List.getElem?_eq_some_iff.mp hj).1
    rw [rngI_len] at jl
    have jl : j < 2 := jl
    exact ⟨by omega, fun m hm => iteF (by show m ≤ 300 * (j + 1); omega)⟩
  · unfold W_law_k1
    obtain ⟨a1, a2, a3⟩ := chk_kinds chk_ok.1 (by decide +kernel)
    obtain ⟨b1, b2, b3⟩ := chk_kinds chk_ok.2 (by decide +kernel)
    obtain ⟨c1, c2, -, -⟩ := ends_ok
    refine ⟨a1, a2, fun _ => b1, fun _ => b2, ?_⟩
    rw [a3, b3, c1, c2, decide_eq_true rfl]
    exact iteF ⟨parseOk_any (by decide +kernel), fun _ => parseOk_any (by decide +kernel), rfl⟩
def spLaw (K : PySem.W.Frag) : Sp := fun vs H Q _ => ∃ (a : Addr) (ns : List Int), vs = [.ref a] ∧ SqL K H a (ns.map V.int) ∧ ns.length ≤ 63 ∧ ∀ H', Q (.bl true) H'
theorem sc_law : FnScope ["_law_script", "_law_at", "_law_bag_here", "_law_turn"] ["_law_script"] (defScope s_law) := ⟨rfl, rfl, rfl, by decide +kernel, rfl, by decide +kernel, by decide +kernel⟩
theorem ok_law (T : Txt K mg a) : FnOk P w K mg base CX0 14 a.f_law a.d_law ["_law_script"] (spLaw K) := by
  refine T.F_law.ok sc_law (fun vs H Q E h => ?_) (fun cdv A outer s H vs Q E hr h => ?_)
  · obtain ⟨l, ns, rfl, _⟩ := h
    rfl
  · obtain ⟨l, ns, rfl, hl, hlen, kq⟩ := h
    refine ⟨_, (pss_cons (ps_for PassesOwn.never rfl (pi_range1 (by rfl) T.b_range (pa_cons (pe_callB (call_max2 rfl) (by rfl) T.b_max (by decide +kernel) (pa_cons pe_int (pa_cons (pe_callB (call_min2 rfl) (by rfl) T.b_min (by decide +kernel) (pa_cons pe_int (pa_cons (pe_callB call_len_seq (by rfl) T.b_len PySem.boot_len (pa_cons (pv 0) pa_nil)) pa_nil))) pa_nil))) pa_nil)) (pg_name (i := 1) sc_law.nd rfl (.inl rfl))
      (pss_cons (ps_set (i := 2) sc_law.nd rfl (.inl rfl) (pe_call (ok_l_bag T) (hr.mono (by decide)) rfl T.m_l_bag T.k_l_bag T.a_l_bag .nil pass0 (pa_cons (pv 0) (pa_cons (pv 1) pa_nil))))
      (pss_cons (ps_for PassesOwn.never rfl (pi_range1 (by rfl) T.b_range (pa_cons pe_int pa_nil)) (pg_name (i := 3) sc_law.nd rfl (.inl rfl))
      (pss_cons (ps_if (pt_not (pt_val (pe_call (ok_l_right T) (hr.mono (by decide)) rfl T.m_l_right T.k_l_right T.a_l_right .nil pass0 (pa_cons (pv 2) pa_nil)))) (pss_cons (ps_ret pe_bl)
      pss_nil) pss_nil)
      pss_nil))
      pss_nil)))
      (pss_cons (ps_if (PW.pt (pw_or (pt_cmpR op_ne (pe_callB call_len_seq (by rfl) T.b_len PySem.boot_len (pa_cons (pe_meth (pe_make T.mk_Schema (ok_Schema__init T) (hr.mono (by decide)) rfl T.m_Schema T.a_Schema__init .nil passL (pa_cons pe_str pa_nil)) T.c_Schema T.t_Schema_kinds (ok_Schema_kinds T) (hr.mono (by decide)) T.a_Schema_kinds .nil pass0 (pa_cons pe_str pa_nil)) pa_nil)) pe_int (nomark _)) (pw_or1 (pt_cmpR op_ne (pe_callB call_len_seq (by rfl) T.b_len PySem.boot_len (pa_cons (pe_meth (pe_make T.mk_Schema (ok_Schema__init T) (hr.mono (by decide)) rfl T.m_Schema T.a_Schema__init .nil passL (pa_cons pe_str pa_nil)) T.c_Schema T.t_Schema_kinds (ok_Schema_kinds T) (hr.mono (by decide)) T.a_Schema_kinds .nil pass0 (pa_cons pe_str pa_nil)) pa_nil)) pe_int (nomark _))))) (pss_cons (ps_ret pe_bl)
      pss_nil) pss_nil)
      (pss_cons (ps_ret (pe_and (pe_cmpR (op_eqD hr.units) (pe_call (ok_l_refused T) (hr.mono (by decide)) rfl T.m_l_refused T.k_l_refused T.a_l_refused .nil pass0 (pa_cons pe_str pa_nil)) pe_int (nomark _)) (pe_one (pe_cmpR (op_eqD hr.units) (pe_call (ok_l_refused T) (hr.mono (by decide)) rfl T.m_l_refused T.k_l_refused T.a_l_refused .nil pass0 (pa_cons pe_str pa_nil)) pe_int (nomark _)))))
      pss_nil))), ?_⟩
    obtain ⟨sc, esc⟩ : ∃ sc : Nat, ns.length = sc := ⟨_, rfl⟩
    obtain ⟨M0, eM⟩ : ∃ M0 : Addr → Prop, M0 = fun _ => False := ⟨_, rfl⟩
    obtain ⟨Y, eY⟩ : ∃ Y : List Addr, Y = [] := ⟨_, rfl⟩
    have w0 : Wd M0 H := by rw [eM]; exact fun q h => h.elim
    have g : Gd M0 [] Y H H := Gd.start w0 (by rw [eY]; exact fun y h => nomatch h)
    obtain ⟨P, eP⟩ : ∃ P : Bool → Prop, P = fun r => r = true := ⟨_, rfl⟩
    have kk : ∀ r v H2, P r → Wd M0 H2 → Same H H2 → rD K (Fx M0 H2) (D.bl r) v → Q v H2 := fun r v H2 e _ _ hv => by rw [eP] at e; cases (show v = V.bl r from hv); rw [show r = true from e]; exact kq H2
    have hw : W_law sc P := by rw [eP]; exact dW_law (by rw [← esc]; exact hlen)
    unfold W_law at hw
    refine st_for ?_
    obtain ⟨c, c2, hw⟩ := hw
    refine EVI.gom (K := K) (en := D.int) (xs := (rngI 0 (if 1 < (if (sc : Int) < 4 then (sc : Int) else 4) then (if (sc : Int) < 4 then (sc : Int) else 4) else 1))) (evi_range1 (eva_cons (ev_cb (eva_cons ev_int (eva_cons (ev_cb (eva_cons ev_int (eva_cons (ev_lenSc2 (i := 0) (m := sc) rfl (SqL.gd hl g eY) esc) eva_nil)) cd_min2) eva_nil)) cd_max2) eva_nil) c c2) g.wd fun J H2 wd s3 wk => ?_
    have g3 := g.same s3
    obtain ⟨Inv, hI, hI2, hI3⟩ := hw
    refine st_forit wk (fun i σ' H' => ∃ (o : Option V) (o2 : Option V) (o3 : Option V), σ' = [some (V.ref l), o, o2, o3] ∧ Gd M0 [] Y H H' ∧ Lx (mxM M0 []) (mxM M0 []) H2 H' ∧ Inv i) ⟨_, _, _, rfl, g3, Lx.refl, hI⟩ (fun i σ' H' _ ⟨_, _, _, _, _, hl, _⟩ => ⟨_, hl⟩) ?_ ?_
    · rintro i x2 σ' H3 H4 hi ⟨o, o2, o3, rfl, g4, l2, hI4⟩ yd
      obtain ⟨at_, hy, s4, hr2⟩ := yd_map yd
      have hw := hI2 i at_  hy hI4
      have hr2 := hr2 _ g4.wd l2
      have g5 := g4.same s4
      cases (show x2 = (V.int at_) from hr2)
      unfold W_law_b1 at hw
      try dsimp only [gName]
      refine st_norm (σ' := [some (V.ref l), some (V.int at_), o2, o3]) rfl ?_
      refine st_set ?_
      refine x_call ?_
      refine x_cons ?_
      refine ⟨_, rfl, ?_⟩
      refine x_cons ?_
      refine EV.go (K := K) (d := (.im (D.int at_))) (ev_vi (i := 1) rfl) g5.wd fun v H5 wd2 s5 h2 => ?_
      have g6 := g5.same s5
      cases (show v = (V.int at_) from h2)
      refine x_nil ?_
      obtain ⟨c3, c4, hw⟩ := hw
      refine x_bag (SqL.gd hl g6 eY) c3 c4 fun b H6 nb s6 ⟨o4, ho⟩ hB => ?_
      have ex := Gd.ex_new (M0 := M0) (Ls := []) s6 nb
      have g7 := g6.new s6 nb ho
      have hS : SMB H6 b [b] 0 := ⟨rfl, hB⟩
      try dsimp only [gName]
      refine st_norm (σ' := [some (V.ref l), some (V.int at_), some (V.ref b), o3]) rfl ?_
      refine st_for ?_
      obtain ⟨c5, c6, hw⟩ := hw
      refine EVI.gom (K := K) (en := D.int) (xs := (rngI 0 2)) (evi_range1 (eva_cons ev_int eva_nil) c5 c6) g7.wd fun J2 H7 wd3 s7 wk2 => ?_
      have g8 := g7.same s7
      have hS2 := hS.same s7
      obtain ⟨Inv2, hI5, hI6, hI7⟩ := hw
      refine st_forit wk2 (fun i σ' H' => ∃ (o5 : Option V) (n2 : Nat), σ' = [some (V.ref l), some (V.int at_), some (V.ref b), o5] ∧ Gd M0 [b] Y H H' ∧ Lx (mxM M0 [b]) (mxM M0 [b]) H7 H' ∧ SMB H' b [b] n2 ∧ Inv2 i n2) ⟨_, 0, rfl, g8, Lx.refl, hS2, hI5⟩ (fun i σ' H' _ ⟨_, _, _, _, hl, _⟩ => ⟨_, hl⟩) ?_ ?_
      · rintro i2 x3 σ' H8 H9 hi2 ⟨o5, n2, rfl, g9, l3, hS3, hI8⟩ yd2
        obtain ⟨turn, hy2, s8, hr3⟩ := yd_map yd2
        have hw := hI6 i2 turn  n2 hy2 hI8
        have hr3 := hr3 _ g9.wd l3
        have g10 := g9.same s8
        have hS4 := hS3.same s8
        cases (show x3 = (V.int turn) from hr3)
        unfold W_law_b2 at hw
        try dsimp only [gName]
        refine st_norm (σ' := [some (V.ref l), some (V.int at_), some (V.ref b), some (V.int turn)]) rfl ?_
        refine st_if ?_
        refine x_not ?_
        refine x_b ?_
        refine x_call ?_
        refine x_cons ?_
        refine ⟨_, rfl, ?_⟩
        refine x_nil ?_
        refine ⟨mxM M0 [b], b, [b], n2, (), _, _, rfl, g10.wd, (fun y hy => .inr (by rw [List.mem_singleton.mp hy]; simp)), hS4, rfl, hw, fun r v3 n3 H11 hw wd5 b2 hS5 h4 => ?_⟩
        have g11 := g10.callL (by simp) wd5 b2
        have l4 : Lx (mxM M0 [b]) (mxM M0 [b]) H9 H11 := Gd.lx_callL (by simp) b2
        cases (show v3 = (V.bl r) from h4)
        refine ⟨_, rfl, ?_⟩
        refine wite hw (fun hw => ?_) (fun hw => ?_)
        · skip
          refine st_ret ?_
          refine EV.go (K := K) (d := (.im (D.bl false))) ev_bl g11.wd fun v4 H12 wd6 s10 h5 => ?_
          have g12 := g11.same s10
          have hS6 := hS5.same s10
          exact kk _ _ _ hw g12.w_end (Bu.nil g12.bu eY) (rV.lx Gd.lx_end h5)
        · skip
          refine Lf.st_next ?_
          exact ⟨_, n3, rfl, g11, ((l3.trans (Lx.same s8)).trans l4), hS5, hw⟩
      · rintro σ' H13 ⟨o5, n2, rfl, g13, l5, hS3, hI9⟩
        have hw := hI7 n2 hI9
        unfold W_law_k2 at hw
        have g14 := g13.pick [] (Ls' := []) (by decide) rfl
        have l6 : Lx (mxM M0 [b]) (mxM M0 []) H13 H13 := Gd.lx_pick [] rfl
        exact ⟨_, _, _, rfl, g14, ((((((l2.trans (Lx.same s4)).trans (Lx.same s5)).trans ex.lx).trans (Lx.same s7)).trans l5).trans l6), hw⟩
    · rintro σ' H14 ⟨o, o2, o3, rfl, g15, l7, hI10⟩
      have hw := hI3 hI10
      unfold W_law_k1 at hw
      try dsimp only [gName]
      refine st_norm (σ' := [some (V.ref l), o, o2, o3]) rfl ?_
      refine st_if ?_
      obtain ⟨c13, c14, c21, c22, hw⟩ := hw
      refine EVT.go (b := ((!decide (((Sch.kinds (schOf "r a=3 b=3") "").length : Int) = 16)) || (!decide (((Sch.kinds (schOf "r a=1\nc! d=3 e=1") "").length : Int) = 16)))) (evt_or (evt_test (K := K) (ev_op (ev_cb (eva_cons (ev_meth (ev_mkSchema (eva_cons ev_str eva_nil) c13) (by decide) (eva_cons ev_str eva_nil) (cd_Schema_kinds (schOf "r a=3 b=3") "" c14)) eva_nil) (cd_lenm (en := (eT D.int)) (xs := (Sch.kinds (schOf "r a=3 b=3") "")) (.inl LsOf.im))) ev_int od_neI)) fun hb => (evt_test (K := K) (ev_op (ev_cb (eva_cons (ev_meth (ev_mkSchema (eva_cons ev_str eva_nil) (c21 hb)) (by decide) (eva_cons ev_str eva_nil) (cd_Schema_kinds (schOf "r a=1\nc! d=3 e=1") "" (c22 hb))) eva_nil) (cd_lenm (en := (eT D.int)) (xs := (Sch.kinds (schOf "r a=1\nc! d=3 e=1") "")) (.inl LsOf.im))) ev_int od_neI))) g15.wd fun H15 wd7 s11 => ?_
      have g16 := g15.same s11
      refine wite hw (fun hw => ?_) (fun hw => ?_)
      · skip
        refine st_ret ?_
        refine EV.go (K := K) (d := (.im (D.bl false))) ev_bl g16.wd fun v5 H16 wd8 s12 h6 => ?_
        have g17 := g16.same s12
        exact kk _ _ _ hw g17.w_end (Bu.nil g17.bu eY) (rV.lx Gd.lx_end h6)
      · skip
        refine Lf.st_next ?_
        refine st_ret ?_
        obtain ⟨c23, c24, hw⟩ := hw
        refine EV.go (K := K) (d := (.im (D.bl ((decide ((refusedS "r a=3 b=3\nc! d=1") = (some 1))) && (decide ((refusedS "r a=3\nc? d=3") = (some 1))))))) (ev_and (ev_op (ev_call (eva_cons ev_str eva_nil) (cd_l_refused "r a=3 b=3\nc! d=1" c23)) ev_int (od_eqD (en := eO D.int) (x := (refusedS "r a=3 b=3\nc! d=1")) (y := (some 1)) inj_OI (shp_OI _) (shp_OI _) DvOf.im DvOf.im)) fun hb2 => (ev_op (ev_call (eva_cons ev_str eva_nil) (cd_l_refused "r a=3\nc? d=3" (c24 hb2))) ev_int (od_eqD (en := eO D.int) (x := (refusedS "r a=3\nc? d=3")) (y := (some 1)) inj_OI (shp_OI _) (shp_OI _) DvOf.im DvOf.im))) g16.wd fun v6 H17 wd9 s13 h7 => ?_
        have g18 := g16.same s13
        exact kk _ _ _ hw g18.w_end (Bu.nil g18.bu eY) (rV.lx Gd.lx_end h7)

end
end Toy

set_option Elab.async false
set_option linter.all false
set_option maxRecDepth 100000
set_option maxHeartbeats 4000000
set_option pp.maxSteps 300
set_option pp.deepTerms false
namespace Toy
open PySem L2 Lf
theorem txt_mk {K : PySem.W.Frag} {h : Heap} {mg : Str → Option Value} {C_LinkedError : Addr} {C_BadSchema : Addr} {C_BadHead : Addr} {C_Schema : Addr} {f_l_bag : Addr} {od_l_bag an_l_bag : Option Addr} {sl_l_bag : Array (Option Value)} {oc_l_bag kV_l_bag dc_l_bag pm_l_bag cd_l_bag ct_l_bag : Value} {f_l_take : Addr} {od_l_take an_l_take : Option Addr} {sl_l_take : Array (Option Value)} {oc_l_take kV_l_take dc_l_take pm_l_take cd_l_take ct_l_take : Value} {f_l_of : Addr} {od_l_of an_l_of : Option Addr} {sl_l_of : Array (Option Value)} {oc_l_of kV_l_of dc_l_of pm_l_of cd_l_of ct_l_of : Value} {f_l_refused : Addr} {od_l_refused an_l_refused : Option Addr} {sl_l_refused : Array (Option Value)} {oc_l_refused kV_l_refused dc_l_refused pm_l_refused cd_l_refused ct_l_refused : Value} {f_l_fields : Addr} {od_l_fields an_l_fields : Option Addr} {sl_l_fields : Array (Option Value)} {oc_l_fields kV_l_fields dc_l_fields pm_l_fields cd_l_fields ct_l_fields : Value} {f_l_product : Addr} {od_l_product an_l_product : Option Addr} {sl_l_product : Array (Option Value)} {oc_l_product kV_l_product dc_l_product pm_l_product cd_l_product ct_l_product : Value} {f_l_kinds_bound : Addr} {od_l_kinds_bound an_l_kinds_bound : Option Addr} {sl_l_kinds_bound : Array (Option Value)} {oc_l_kinds_bound kV_l_kinds_bound dc_l_kinds_bound pm_l_kinds_bound cd_l_kinds_bound ct_l_kinds_bound : Value} {f_l_right : Addr} {od_l_right an_l_right : Option Addr} {sl_l_right : Array (Option Value)} {oc_l_right kV_l_right dc_l_right pm_l_right cd_l_right ct_l_right : Value} {f_law : Addr} {od_law an_law : Option Addr} {sl_law : Array (Option Value)} {oc_law kV_law dc_law pm_law cd_law ct_law : Value} {f_is_word : Addr} {od_is_word an_is_word : Option Addr} {sl_is_word : Array (Option Value)} {oc_is_word kV_is_word dc_is_word pm_is_word cd_is_word ct_is_word : Value} {f_path_above : Addr} {od_path_above an_path_above : Option Addr} {sl_path_above : Array (Option Value)} {oc_path_above kV_path_above dc_path_above pm_path_above cd_path_above ct_path_above : Value} {f_joined_path : Addr} {od_joined_path an_joined_path : Option Addr} {sl_joined_path : Array (Option Value)} {oc_joined_path kV_joined_path dc_joined_path pm_joined_path cd_joined_path ct_joined_path : Value} {f_seen_from : Addr} {od_seen_from an_seen_from : Option Addr} {sl_seen_from : Array (Option Value)} {oc_seen_from kV_seen_from dc_seen_from pm_seen_from cd_seen_from ct_seen_from : Value} {f_read_columns : Addr} {od_read_columns an_read_columns : Option Addr} {sl_read_columns : Array (Option Value)} {oc_read_columns kV_read_columns dc_read_columns pm_read_columns cd_read_columns ct_read_columns : Value} {f_read_line : Addr} {od_read_line an_read_line : Option Addr} {sl_read_line : Array (Option Value)} {oc_read_line kV_read_line dc_read_line pm_read_line cd_read_line ct_read_line : Value} {f_Schema__init : Addr} {od_Schema__init an_Schema__init : Option Addr} {sl_Schema__init : Array (Option Value)} {oc_Schema__init kV_Schema__init dc_Schema__init pm_Schema__init cd_Schema__init ct_Schema__init : Value} {f_Schema_admits : Addr} {od_Schema_admits an_Schema_admits : Option Addr} {sl_Schema_admits : Array (Option Value)} {oc_Schema_admits kV_Schema_admits dc_Schema_admits pm_Schema_admits cd_Schema_admits ct_Schema_admits : Value} {f_Schema_how_many : Addr} {od_Schema_how_many an_Schema_how_many : Option Addr} {sl_Schema_how_many : Array (Option Value)} {oc_Schema_how_many kV_Schema_how_many dc_Schema_how_many pm_Schema_how_many cd_Schema_how_many ct_Schema_how_many : Value} {f_Schema__len : Addr} {od_Schema__len an_Schema__len : Option Addr} {sl_Schema__len : Array (Option Value)} {oc_Schema__len kV_Schema__len dc_Schema__len pm_Schema__len cd_Schema__len ct_Schema__len : Value} {f_Schema__contains : Addr} {od_Schema__contains an_Schema__contains : Option Addr} {sl_Schema__contains : Array (Option Value)} {oc_Schema__contains kV_Schema__contains dc_Schema__contains pm_Schema__contains cd_Schema__contains ct_Schema__contains : Value} {f_Schema_heads : Addr} {od_Schema_heads an_Schema_heads : Option Addr} {sl_Schema_heads : Array (Option Value)} {oc_Schema_heads kV_Schema_heads dc_Schema_heads pm_Schema_heads cd_Schema_heads ct_Schema_heads : Value} {f_Schema_group : Addr} {od_Schema_group an_Schema_group : Option Addr} {sl_Schema_group : Array (Option Value)} {oc_Schema_group kV_Schema_group dc_Schema_group pm_Schema_group cd_Schema_group ct_Schema_group : Value} {f_Schema_kinds : Addr} {od_Schema_kinds an_Schema_kinds : Option Addr} {sl_Schema_kinds : Array (Option Value)} {oc_Schema_kinds kV_Schema_kinds dc_Schema_kinds pm_Schema_kinds cd_Schema_kinds ct_Schema_kinds : Value} {f_all_values : Addr} {od_all_values an_all_values : Option Addr} {sl_all_values : Array (Option Value)} {oc_all_values kV_all_values dc_all_values pm_all_values cd_all_values ct_all_values : Value} {f_BadSchema__init : Addr} {od_BadSchema__init an_BadSchema__init : Option Addr} {sl_BadSchema__init : Array (Option Value)} {oc_BadSchema__init kV_BadSchema__init dc_BadSchema__init pm_BadSchema__init cd_BadSchema__init ct_BadSchema__init : Value} {f_BadHead__init : Addr} {od_BadHead__init an_BadHead__init : Option Addr} {sl_BadHead__init : Array (Option Value)} {oc_BadHead__init kV_BadHead__init dc_BadHead__init pm_BadHead__init cd_BadHead__init ct_BadHead__init : Value} {nm_BadSchema q_BadSchema : Str} {N_BadSchema : Addr} {bs_BadSchema sub_BadSchema : List Value} {sn_BadSchema : List Str} {ab_BadSchema : Bool} {col_BadSchema : Option Bool} {dd_BadSchema : Option Addr} {m0_BadSchema m1_BadSchema m2_BadSchema m3_BadSchema m5_BadSchema : Option Value} {nm_BadHead q_BadHead : Str} {N_BadHead : Addr} {bs_BadHead sub_BadHead : List Value} {sn_BadHead : List Str} {ab_BadHead : Bool} {col_BadHead : Option Bool} {dd_BadHead : Option Addr} {m0_BadHead m1_BadHead m2_BadHead m3_BadHead m5_BadHead : Option Value} {t_LETTERS : Tok} {t_MOST_LINES : Tok} {t_MOST_WORDS : Tok} {t_MOST_KINDS : Tok} (X : K.In h) (Gm : h.Ns mainGlobals mg)
    (aC_LinkedError : PySem.W.nsIn K mainGlobals "LinkedError" = some (some (.ref C_LinkedError)))
    (aC_BadSchema : PySem.W.nsIn K mainGlobals "BadSchema" = some (some (.ref C_BadSchema)))
    (aC_BadHead : PySem.W.nsIn K mainGlobals "BadHead" = some (some (.ref C_BadHead)))
    (aC_Schema : PySem.W.nsIn K mainGlobals "Schema" = some (some (.ref C_Schema)))
    (a_l_bag : PySem.W.nsIn K mainGlobals "_law_bag" = some (some (.ref f_l_bag)))
    (l_l_bag : K.lookup f_l_bag = some ⟨oc_l_bag, od_l_bag, .func (PySem.W.fnOf "_law_bag" "_law_bag" (defArgs s_l_bag) (defBody s_l_bag) (defScope s_l_bag) .none kV_l_bag dc_l_bag pm_l_bag an_l_bag cd_l_bag ct_l_bag), sl_l_bag⟩)
    (c_l_bag : PySem.W.codeIn K cd_l_bag "_law_bag" = true)
    (k_l_bag : PySem.W.keepIn K (.ref f_l_bag) = true)
    (a_l_take : PySem.W.nsIn K mainGlobals "_law_take" = some (some (.ref f_l_take)))
    (l_l_take : K.lookup f_l_take = some ⟨oc_l_take, od_l_take, .func (PySem.W.fnOf "_law_take" "_law_take" (defArgs s_l_take) (defBody s_l_take) (defScope s_l_take) .none kV_l_take dc_l_take pm_l_take an_l_take cd_l_take ct_l_take), sl_l_take⟩)
    (c_l_take : PySem.W.codeIn K cd_l_take "_law_take" = true)
    (k_l_take : PySem.W.keepIn K (.ref f_l_take) = true)
    (a_l_of : PySem.W.nsIn K mainGlobals "_law_of" = some (some (.ref f_l_of)))
    (l_l_of : K.lookup f_l_of = some ⟨oc_l_of, od_l_of, .func (PySem.W.fnOf "_law_of" "_law_of" (defArgs s_l_of) (defBody s_l_of) (defScope s_l_of) .none kV_l_of dc_l_of pm_l_of an_l_of cd_l_of ct_l_of), sl_l_of⟩)
    (c_l_of : PySem.W.codeIn K cd_l_of "_law_of" = true)
    (k_l_of : PySem.W.keepIn K (.ref f_l_of) = true)
    (a_l_refused : PySem.W.nsIn K mainGlobals "_law_refused" = some (some (.ref f_l_refused)))
    (l_l_refused : K.lookup f_l_refused = some ⟨oc_l_refused, od_l_refused, .func (PySem.W.fnOf "_law_refused" "_law_refused" (defArgs s_l_refused) (defBody s_l_refused) (defScope s_l_refused) .none kV_l_refused dc_l_refused pm_l_refused an_l_refused cd_l_refused ct_l_refused), sl_l_refused⟩)
    (c_l_refused : PySem.W.codeIn K cd_l_refused "_law_refused" = true)
    (k_l_refused : PySem.W.keepIn K (.ref f_l_refused) = true)
    (a_l_fields : PySem.W.nsIn K mainGlobals "_law_fields" = some (some (.ref f_l_fields)))
    (l_l_fields : K.lookup f_l_fields = some ⟨oc_l_fields, od_l_fields, .func (PySem.W.fnOf "_law_fields" "_law_fields" (defArgs s_l_fields) (defBody s_l_fields) (defScope s_l_fields) .none kV_l_fields dc_l_fields pm_l_fields an_l_fields cd_l_fields ct_l_fields), sl_l_fields⟩)
    (c_l_fields : PySem.W.codeIn K cd_l_fields "_law_fields" = true)
    (k_l_fields : PySem.W.keepIn K (.ref f_l_fields) = true)
    (a_l_product : PySem.W.nsIn K mainGlobals "_law_product" = some (some (.ref f_l_product)))
    (l_l_product : K.lookup f_l_product = some ⟨oc_l_product, od_l_product, .func (PySem.W.fnOf "_law_product" "_law_product" (defArgs s_l_product) (defBody s_l_product) (defScope s_l_product) .none kV_l_product dc_l_product pm_l_product an_l_product cd_l_product ct_l_product), sl_l_product⟩)
    (c_l_product : PySem.W.codeIn K cd_l_product "_law_product" = true)
    (k_l_product : PySem.W.keepIn K (.ref f_l_product) = true)
    (a_l_kinds_bound : PySem.W.nsIn K mainGlobals "_law_kinds_bound" = some (some (.ref f_l_kinds_bound)))
    (l_l_kinds_bound : K.lookup f_l_kinds_bound = some ⟨oc_l_kinds_bound, od_l_kinds_bound, .func (PySem.W.fnOf "_law_kinds_bound" "_law_kinds_bound" (defArgs s_l_kinds_bound) (defBody s_l_kinds_bound) (defScope s_l_kinds_bound) .none kV_l_kinds_bound dc_l_kinds_bound pm_l_kinds_bound an_l_kinds_bound cd_l_kinds_bound ct_l_kinds_bound), sl_l_kinds_bound⟩)
    (c_l_kinds_bound : PySem.W.codeIn K cd_l_kinds_bound "_law_kinds_bound" = true)
    (k_l_kinds_bound : PySem.W.keepIn K (.ref f_l_kinds_bound) = true)
    (a_l_right : PySem.W.nsIn K mainGlobals "_law_right" = some (some (.ref f_l_right)))
    (l_l_right : K.lookup f_l_right = some ⟨oc_l_right, od_l_right, .func (PySem.W.fnOf "_law_right" "_law_right" (defArgs s_l_right) (defBody s_l_right) (defScope s_l_right) .none kV_l_right dc_l_right pm_l_right an_l_right cd_l_right ct_l_right), sl_l_right⟩)
    (c_l_right : PySem.W.codeIn K cd_l_right "_law_right" = true)
    (k_l_right : PySem.W.keepIn K (.ref f_l_right) = true)
    (a_law : PySem.W.nsIn K mainGlobals "law" = some (some (.ref f_law)))
    (l_law : K.lookup f_law = some ⟨oc_law, od_law, .func (PySem.W.fnOf "law" "law" (defArgs s_law) (defBody s_law) (defScope s_law) .none kV_law dc_law pm_law an_law cd_law ct_law), sl_law⟩)
    (c_law : PySem.W.codeIn K cd_law "law" = true)
    (k_law : PySem.W.keepIn K (.ref f_law) = true)
    (a_is_word : PySem.W.nsIn K mainGlobals "is_word" = some (some (.ref f_is_word)))
    (l_is_word : K.lookup f_is_word = some ⟨oc_is_word, od_is_word, .func (PySem.W.fnOf "is_word" "is_word" (defArgs s_is_word) (defBody s_is_word) (defScope s_is_word) .none kV_is_word dc_is_word pm_is_word an_is_word cd_is_word ct_is_word), sl_is_word⟩)
    (c_is_word : PySem.W.codeIn K cd_is_word "is_word" = true)
    (k_is_word : PySem.W.keepIn K (.ref f_is_word) = true)
    (a_path_above : PySem.W.nsIn K mainGlobals "path_above" = some (some (.ref f_path_above)))
    (l_path_above : K.lookup f_path_above = some ⟨oc_path_above, od_path_above, .func (PySem.W.fnOf "path_above" "path_above" (defArgs s_path_above) (defBody s_path_above) (defScope s_path_above) .none kV_path_above dc_path_above pm_path_above an_path_above cd_path_above ct_path_above), sl_path_above⟩)
    (c_path_above : PySem.W.codeIn K cd_path_above "path_above" = true)
    (k_path_above : PySem.W.keepIn K (.ref f_path_above) = true)
    (a_joined_path : PySem.W.nsIn K mainGlobals "joined_path" = some (some (.ref f_joined_path)))
    (l_joined_path : K.lookup f_joined_path = some ⟨oc_joined_path, od_joined_path, .func (PySem.W.fnOf "joined_path" "joined_path" (defArgs s_joined_path) (defBody s_joined_path) (defScope s_joined_path) .none kV_joined_path dc_joined_path pm_joined_path an_joined_path cd_joined_path ct_joined_path), sl_joined_path⟩)
    (c_joined_path : PySem.W.codeIn K cd_joined_path "joined_path" = true)
    (k_joined_path : PySem.W.keepIn K (.ref f_joined_path) = true)
    (a_seen_from : PySem.W.nsIn K mainGlobals "seen_from" = some (some (.ref f_seen_from)))
    (l_seen_from : K.lookup f_seen_from = some ⟨oc_seen_from, od_seen_from, .func (PySem.W.fnOf "seen_from" "seen_from" (defArgs s_seen_from) (defBody s_seen_from) (defScope s_seen_from) .none kV_seen_from dc_seen_from pm_seen_from an_seen_from cd_seen_from ct_seen_from), sl_seen_from⟩)
    (c_seen_from : PySem.W.codeIn K cd_seen_from "seen_from" = true)
    (k_seen_from : PySem.W.keepIn K (.ref f_seen_from) = true)
    (a_read_columns : PySem.W.nsIn K mainGlobals "read_columns" = some (some (.ref f_read_columns)))
    (l_read_columns : K.lookup f_read_columns = some ⟨oc_read_columns, od_read_columns, .func (PySem.W.fnOf "read_columns" "read_columns" (defArgs s_read_columns) (defBody s_read_columns) (defScope s_read_columns) .none kV_read_columns dc_read_columns pm_read_columns an_read_columns cd_read_columns ct_read_columns), sl_read_columns⟩)
    (c_read_columns : PySem.W.codeIn K cd_read_columns "read_columns" = true)
    (k_read_columns : PySem.W.keepIn K (.ref f_read_columns) = true)
    (a_read_line : PySem.W.nsIn K mainGlobals "read_line" = some (some (.ref f_read_line)))
    (l_read_line : K.lookup f_read_line = some ⟨oc_read_line, od_read_line, .func (PySem.W.fnOf "read_line" "read_line" (defArgs s_read_line) (defBody s_read_line) (defScope s_read_line) .none kV_read_line dc_read_line pm_read_line an_read_line cd_read_line ct_read_line), sl_read_line⟩)
    (c_read_line : PySem.W.codeIn K cd_read_line "read_line" = true)
    (k_read_line : PySem.W.keepIn K (.ref f_read_line) = true)
    (a_Schema__init : PySem.W.findIn K (.ref C_Schema) "__init__" = some (some (.ref f_Schema__init)))
    (i_Schema__init : PySem.W.isFn K (.ref f_Schema__init) = true)
    (fi_Schema__init : PySem.W.fnIn K f_Schema__init = true)
    (l_Schema__init : K.lookup f_Schema__init = some ⟨oc_Schema__init, od_Schema__init, .func (PySem.W.fnOf "__init__" "Schema.__init__" (defArgs s_Schema__init) (defBody s_Schema__init) (defScope s_Schema__init) .none kV_Schema__init dc_Schema__init pm_Schema__init an_Schema__init cd_Schema__init ct_Schema__init), sl_Schema__init⟩)
    (c_Schema__init : PySem.W.codeIn K cd_Schema__init "Schema.__init__" = true)
    (k_Schema__init : PySem.W.keepIn K (.ref f_Schema__init) = true)
    (a_Schema_admits : PySem.W.findIn K (.ref C_Schema) "admits" = some (some (.ref f_Schema_admits)))
    (i_Schema_admits : PySem.W.isFn K (.ref f_Schema_admits) = true)
    (fi_Schema_admits : PySem.W.fnIn K f_Schema_admits = true)
    (l_Schema_admits : K.lookup f_Schema_admits = some ⟨oc_Schema_admits, od_Schema_admits, .func (PySem.W.fnOf "admits" "Schema.admits" (defArgs s_Schema_admits) (defBody s_Schema_admits) (defScope s_Schema_admits) .none kV_Schema_admits dc_Schema_admits pm_Schema_admits an_Schema_admits cd_Schema_admits ct_Schema_admits), sl_Schema_admits⟩)
    (c_Schema_admits : PySem.W.codeIn K cd_Schema_admits "Schema.admits" = true)
    (k_Schema_admits : PySem.W.keepIn K (.ref f_Schema_admits) = true)
    (a_Schema_how_many : PySem.W.findIn K (.ref C_Schema) "how_many" = some (some (.ref f_Schema_how_many)))
    (i_Schema_how_many : PySem.W.isFn K (.ref f_Schema_how_many) = true)
    (fi_Schema_how_many : PySem.W.fnIn K f_Schema_how_many = true)
    (l_Schema_how_many : K.lookup f_Schema_how_many = some ⟨oc_Schema_how_many, od_Schema_how_many, .func (PySem.W.fnOf "how_many" "Schema.how_many" (defArgs s_Schema_how_many) (defBody s_Schema_how_many) (defScope s_Schema_how_many) .none kV_Schema_how_many dc_Schema_how_many pm_Schema_how_many an_Schema_how_many cd_Schema_how_many ct_Schema_how_many), sl_Schema_how_many⟩)
    (c_Schema_how_many : PySem.W.codeIn K cd_Schema_how_many "Schema.how_many" = true)
    (k_Schema_how_many : PySem.W.keepIn K (.ref f_Schema_how_many) = true)
    (a_Schema__len : PySem.W.findIn K (.ref C_Schema) "__len__" = some (some (.ref f_Schema__len)))
    (i_Schema__len : PySem.W.isFn K (.ref f_Schema__len) = true)
    (fi_Schema__len : PySem.W.fnIn K f_Schema__len = true)
    (l_Schema__len : K.lookup f_Schema__len = some ⟨oc_Schema__len, od_Schema__len, .func (PySem.W.fnOf "__len__" "Schema.__len__" (defArgs s_Schema__len) (defBody s_Schema__len) (defScope s_Schema__len) .none kV_Schema__len dc_Schema__len pm_Schema__len an_Schema__len cd_Schema__len ct_Schema__len), sl_Schema__len⟩)
    (c_Schema__len : PySem.W.codeIn K cd_Schema__len "Schema.__len__" = true)
    (k_Schema__len : PySem.W.keepIn K (.ref f_Schema__len) = true)
    (a_Schema__contains : PySem.W.findIn K (.ref C_Schema) "__contains__" = some (some (.ref f_Schema__contains)))
    (i_Schema__contains : PySem.W.isFn K (.ref f_Schema__contains) = true)
    (fi_Schema__contains : PySem.W.fnIn K f_Schema__contains = true)
    (l_Schema__contains : K.lookup f_Schema__contains = some ⟨oc_Schema__contains, od_Schema__contains, .func (PySem.W.fnOf "__contains__" "Schema.__contains__" (defArgs s_Schema__contains) (defBody s_Schema__contains) (defScope s_Schema__contains) .none kV_Schema__contains dc_Schema__contains pm_Schema__contains an_Schema__contains cd_Schema__contains ct_Schema__contains), sl_Schema__contains⟩)
    (c_Schema__contains : PySem.W.codeIn K cd_Schema__contains "Schema.__contains__" = true)
    (k_Schema__contains : PySem.W.keepIn K (.ref f_Schema__contains) = true)
    (a_Schema_heads : PySem.W.findIn K (.ref C_Schema) "heads" = some (some (.ref f_Schema_heads)))
    (i_Schema_heads : PySem.W.isFn K (.ref f_Schema_heads) = true)
    (fi_Schema_heads : PySem.W.fnIn K f_Schema_heads = true)
    (l_Schema_heads : K.lookup f_Schema_heads = some ⟨oc_Schema_heads, od_Schema_heads, .func (PySem.W.fnOf "heads" "Schema.heads" (defArgs s_Schema_heads) (defBody s_Schema_heads) (defScope s_Schema_heads) .none kV_Schema_heads dc_Schema_heads pm_Schema_heads an_Schema_heads cd_Schema_heads ct_Schema_heads), sl_Schema_heads⟩)
    (c_Schema_heads : PySem.W.codeIn K cd_Schema_heads "Schema.heads" = true)
    (k_Schema_heads : PySem.W.keepIn K (.ref f_Schema_heads) = true)
    (a_Schema_group : PySem.W.findIn K (.ref C_Schema) "group" = some (some (.ref f_Schema_group)))
    (i_Schema_group : PySem.W.isFn K (.ref f_Schema_group) = true)
    (fi_Schema_group : PySem.W.fnIn K f_Schema_group = true)
    (l_Schema_group : K.lookup f_Schema_group = some ⟨oc_Schema_group, od_Schema_group, .func (PySem.W.fnOf "group" "Schema.group" (defArgs s_Schema_group) (defBody s_Schema_group) (defScope s_Schema_group) .none kV_Schema_group dc_Schema_group pm_Schema_group an_Schema_group cd_Schema_group ct_Schema_group), sl_Schema_group⟩)
    (c_Schema_group : PySem.W.codeIn K cd_Schema_group "Schema.group" = true)
    (k_Schema_group : PySem.W.keepIn K (.ref f_Schema_group) = true)
    (a_Schema_kinds : PySem.W.findIn K (.ref C_Schema) "kinds" = some (some (.ref f_Schema_kinds)))
    (i_Schema_kinds : PySem.W.isFn K (.ref f_Schema_kinds) = true)
    (fi_Schema_kinds : PySem.W.fnIn K f_Schema_kinds = true)
    (l_Schema_kinds : K.lookup f_Schema_kinds = some ⟨oc_Schema_kinds, od_Schema_kinds, .func (PySem.W.fnOf "kinds" "Schema.kinds" (defArgs s_Schema_kinds) (defBody s_Schema_kinds) (defScope s_Schema_kinds) .none kV_Schema_kinds dc_Schema_kinds pm_Schema_kinds an_Schema_kinds cd_Schema_kinds ct_Schema_kinds), sl_Schema_kinds⟩)
    (c_Schema_kinds : PySem.W.codeIn K cd_Schema_kinds "Schema.kinds" = true)
    (k_Schema_kinds : PySem.W.keepIn K (.ref f_Schema_kinds) = true)
    (a_all_values : PySem.W.nsIn K mainGlobals "all_values" = some (some (.ref f_all_values)))
    (l_all_values : K.lookup f_all_values = some ⟨oc_all_values, od_all_values, .func (PySem.W.fnOf "all_values" "all_values" (defArgs s_all_values) (defBody s_all_values) (defScope s_all_values) .none kV_all_values dc_all_values pm_all_values an_all_values cd_all_values ct_all_values), sl_all_values⟩)
    (c_all_values : PySem.W.codeIn K cd_all_values "all_values" = true)
    (k_all_values : PySem.W.keepIn K (.ref f_all_values) = true)
    (a_BadSchema__init : PySem.W.findIn K (.ref C_BadSchema) "__init__" = some (some (.ref f_BadSchema__init)))
    (ty_BadSchema__init : PySem.W.typeIn K (.ref f_BadSchema__init) = some (.type "function"))
    (l_BadSchema__init : K.lookup f_BadSchema__init = some ⟨oc_BadSchema__init, od_BadSchema__init, .func (PySem.W.fnOf "__init__" "BadSchema.__init__" (defArgs s_BadSchema__init) (defBody s_BadSchema__init) (defScope s_BadSchema__init) .none kV_BadSchema__init dc_BadSchema__init pm_BadSchema__init an_BadSchema__init cd_BadSchema__init ct_BadSchema__init), sl_BadSchema__init⟩)
    (c_BadSchema__init : PySem.W.codeIn K cd_BadSchema__init "BadSchema.__init__" = true)
    (k_BadSchema__init : PySem.W.keepIn K (.ref f_BadSchema__init) = true)
    (a_BadHead__init : PySem.W.findIn K (.ref C_BadHead) "__init__" = some (some (.ref f_BadHead__init)))
    (ty_BadHead__init : PySem.W.typeIn K (.ref f_BadHead__init) = some (.type "function"))
    (l_BadHead__init : K.lookup f_BadHead__init = some ⟨oc_BadHead__init, od_BadHead__init, .func (PySem.W.fnOf "__init__" "BadHead.__init__" (defArgs s_BadHead__init) (defBody s_BadHead__init) (defScope s_BadHead__init) .none kV_BadHead__init dc_BadHead__init pm_BadHead__init an_BadHead__init cd_BadHead__init ct_BadHead__init), sl_BadHead__init⟩)
    (c_BadHead__init : PySem.W.codeIn K cd_BadHead__init "BadHead.__init__" = true)
    (k_BadHead__init : PySem.W.keepIn K (.ref f_BadHead__init) = true)
    (n_BadSchema_at : PySem.W.findIn K (.ref C_BadSchema) "at" = some none)
    (xL_BadSchema : K.lookup C_BadSchema = some (excClassObj nm_BadSchema q_BadSchema C_BadSchema N_BadSchema bs_BadSchema [.ref C_LinkedError, .type "ValueError", .type "Exception", .type "BaseException", .type "object"] true sn_BadSchema sub_BadSchema ab_BadSchema col_BadSchema dd_BadSchema m0_BadSchema m1_BadSchema m2_BadSchema m3_BadSchema m5_BadSchema "ValueError.__new__"))
    (sa_BadSchema : PySem.W.findIn K (.ref C_BadSchema) "__setattr__" = some (some (.builtin "object.__setattr__")))
    (eb_BadSchema : PySem.W.subIn K (.ref C_BadSchema) (.type "BaseException") = some true)
    (tc_BadSchema : PySem.W.typeIn K (.ref C_BadSchema) = some (.type "type"))
    (kc_BadSchema : PySem.W.keepIn K (.ref C_BadSchema) = true)
    (ga_BadSchema : PySem.W.findIn K (.ref C_BadSchema) "__getattribute__" = some (some (.builtin "BaseException.__getattribute__")))
    (gg_BadSchema : PySem.W.findIn K (.ref C_BadSchema) "__getattr__" = some none)
    (hd_BadSchema : PySem.W.hasDictIn K C_BadSchema = true)
    (ca_BadSchema : PySem.W.findIn K (.ref C_BadSchema) "__class__" = some (some (.builtin "object.__class__")))
    (cn_BadSchema : PySem.W.specialIn K (.builtin "object.__class__") "__get__" = some (some (.builtin "getset_descriptor.__get__")))
    (ctk_BadSchema : PySem.W.takesIn K (.builtin "object.__class__") = some true)
    (cm_BadSchema : PySem.W.mroIn K C_BadSchema (.type "object") = some true)
    (n_BadHead_path : PySem.W.findIn K (.ref C_BadHead) "path" = some none)
    (xL_BadHead : K.lookup C_BadHead = some (excClassObj nm_BadHead q_BadHead C_BadHead N_BadHead bs_BadHead [.ref C_LinkedError, .type "ValueError", .type "Exception", .type "BaseException", .type "object"] true sn_BadHead sub_BadHead ab_BadHead col_BadHead dd_BadHead m0_BadHead m1_BadHead m2_BadHead m3_BadHead m5_BadHead "ValueError.__new__"))
    (sa_BadHead : PySem.W.findIn K (.ref C_BadHead) "__setattr__" = some (some (.builtin "object.__setattr__")))
    (eb_BadHead : PySem.W.subIn K (.ref C_BadHead) (.type "BaseException") = some true)
    (tc_BadHead : PySem.W.typeIn K (.ref C_BadHead) = some (.type "type"))
    (kc_BadHead : PySem.W.keepIn K (.ref C_BadHead) = true)
    (ga_BadHead : PySem.W.findIn K (.ref C_BadHead) "__getattribute__" = some (some (.builtin "BaseException.__getattribute__")))
    (gg_BadHead : PySem.W.findIn K (.ref C_BadHead) "__getattr__" = some none)
    (hd_BadHead : PySem.W.hasDictIn K C_BadHead = true)
    (ca_BadHead : PySem.W.findIn K (.ref C_BadHead) "__class__" = some (some (.builtin "object.__class__")))
    (cn_BadHead : PySem.W.specialIn K (.builtin "object.__class__") "__get__" = some (some (.builtin "getset_descriptor.__get__")))
    (ctk_BadHead : PySem.W.takesIn K (.builtin "object.__class__") = some true)
    (cm_BadHead : PySem.W.mroIn K C_BadHead (.type "object") = some true)
    (pg_Schema : PySem.W.plainGet K C_Schema Str.empty = true)
    (hd_Schema : PySem.W.hasDictIn K C_Schema = true)
    (po_Schema : PySem.W.plainOver K C_Schema = true)
    (sa_Schema : PySem.W.findIn K (.ref C_Schema) "__setattr__" = some (some (.builtin "object.__setattr__")))
    (kc_Schema : PySem.W.keepIn K (.ref C_Schema) = true)
    (ca_Schema : PySem.W.findIn K (.ref C_Schema) "__class__" = some (some (.builtin "object.__class__")))
    (cn_Schema : PySem.W.specialIn K (.builtin "object.__class__") "__get__" = some (some (.builtin "getset_descriptor.__get__")))
    (ctk_Schema : PySem.W.takesIn K (.builtin "object.__class__") = some true)
    (cm_Schema : PySem.W.mroIn K C_Schema (.type "object") = some true)
    (ic_Schema : PySem.W.isClsIn K C_Schema = true)
    (tc_Schema : PySem.W.typeIn K (.ref C_Schema) = some (.type "type"))
    (ne_Schema : PySem.W.findIn K (.ref C_Schema) "__ne__" = some (some (.builtin "object.__ne__")))
    (mk_Schema : PySem.W.makesIn K C_Schema = true)
    (nq_Schema : PySem.W.noSeq K C_Schema = true)
    (n_Schema_text : PySem.W.findIn K (.ref C_Schema) "text" = some none)
    (n_Schema_marks : PySem.W.findIn K (.ref C_Schema) "marks" = some none)
    (n_Schema_fields : PySem.W.findIn K (.ref C_Schema) "fields" = some none)
    (b_abs : PySem.W.nsIn K mainGlobals "abs" = some none)
    (b_int : PySem.W.nsIn K mainGlobals "int" = some none)
    (b_len : PySem.W.nsIn K mainGlobals "len" = some none)
    (b_range : PySem.W.nsIn K mainGlobals "range" = some none)
    (b_min : PySem.W.nsIn K mainGlobals "min" = some none)
    (b_max : PySem.W.nsIn K mainGlobals "max" = some none)
    (b_any : PySem.W.nsIn K mainGlobals "any" = some none)
    (b_all : PySem.W.nsIn K mainGlobals "all" = some none)
    (b_sorted : PySem.W.nsIn K mainGlobals "sorted" = some none)
    (b_tuple : PySem.W.nsIn K mainGlobals "tuple" = some none)
    (b_list : PySem.W.nsIn K mainGlobals "list" = some none)
    (b_isinstance : PySem.W.nsIn K mainGlobals "isinstance" = some none)
    (b_bool : PySem.W.nsIn K mainGlobals "bool" = some none)
    (b_str : PySem.W.nsIn K mainGlobals "str" = some none)
    (b_enumerate : PySem.W.nsIn K mainGlobals "enumerate" = some none)
    (b_zip : PySem.W.nsIn K mainGlobals "zip" = some none)
    (g_LETTERS : PySem.W.nsIn K mainGlobals "LETTERS" = some (some (.str "abcdefghijklmnopqrstuvwxyz" t_LETTERS)))
    (g_MOST_LINES : PySem.W.nsIn K mainGlobals "MOST_LINES" = some (some (.int 6 t_MOST_LINES)))
    (g_MOST_WORDS : PySem.W.nsIn K mainGlobals "MOST_WORDS" = some (some (.int 3 t_MOST_WORDS)))
    (g_MOST_KINDS : PySem.W.nsIn K mainGlobals "MOST_KINDS" = some (some (.int 16 t_MOST_KINDS))) :
    Txt K mg ⟨f_l_bag, PySem.W.fnOf "_law_bag" "_law_bag" (defArgs s_l_bag) (defBody s_l_bag) (defScope s_l_bag) .none kV_l_bag dc_l_bag pm_l_bag an_l_bag cd_l_bag ct_l_bag, f_l_take, PySem.W.fnOf "_law_take" "_law_take" (defArgs s_l_take) (defBody s_l_take) (defScope s_l_take) .none kV_l_take dc_l_take pm_l_take an_l_take cd_l_take ct_l_take, f_l_of, PySem.W.fnOf "_law_of" "_law_of" (defArgs s_l_of) (defBody s_l_of) (defScope s_l_of) .none kV_l_of dc_l_of pm_l_of an_l_of cd_l_of ct_l_of, f_l_refused, PySem.W.fnOf "_law_refused" "_law_refused" (defArgs s_l_refused) (defBody s_l_refused) (defScope s_l_refused) .none kV_l_refused dc_l_refused pm_l_refused an_l_refused cd_l_refused ct_l_refused, f_l_fields, PySem.W.fnOf "_law_fields" "_law_fields" (defArgs s_l_fields) (defBody s_l_fields) (defScope s_l_fields) .none kV_l_fields dc_l_fields pm_l_fields an_l_fields cd_l_fields ct_l_fields, f_l_product, PySem.W.fnOf "_law_product" "_law_product" (defArgs s_l_product) (defBody s_l_product) (defScope s_l_product) .none kV_l_product dc_l_product pm_l_product an_l_product cd_l_product ct_l_product, f_l_kinds_bound, PySem.W.fnOf "_law_kinds_bound" "_law_kinds_bound" (defArgs s_l_kinds_bound) (defBody s_l_kinds_bound) (defScope s_l_kinds_bound) .none kV_l_kinds_bound dc_l_kinds_bound pm_l_kinds_bound an_l_kinds_bound cd_l_kinds_bound ct_l_kinds_bound, f_l_right, PySem.W.fnOf "_law_right" "_law_right" (defArgs s_l_right) (defBody s_l_right) (defScope s_l_right) .none kV_l_right dc_l_right pm_l_right an_l_right cd_l_right ct_l_right, f_law, PySem.W.fnOf "law" "law" (defArgs s_law) (defBody s_law) (defScope s_law) .none kV_law dc_law pm_law an_law cd_law ct_law, f_is_word, PySem.W.fnOf "is_word" "is_word" (defArgs s_is_word) (defBody s_is_word) (defScope s_is_word) .none kV_is_word dc_is_word pm_is_word an_is_word cd_is_word ct_is_word, f_path_above, PySem.W.fnOf "path_above" "path_above" (defArgs s_path_above) (defBody s_path_above) (defScope s_path_above) .none kV_path_above dc_path_above pm_path_above an_path_above cd_path_above ct_path_above, f_joined_path, PySem.W.fnOf "joined_path" "joined_path" (defArgs s_joined_path) (defBody s_joined_path) (defScope s_joined_path) .none kV_joined_path dc_joined_path pm_joined_path an_joined_path cd_joined_path ct_joined_path, f_seen_from, PySem.W.fnOf "seen_from" "seen_from" (defArgs s_seen_from) (defBody s_seen_from) (defScope s_seen_from) .none kV_seen_from dc_seen_from pm_seen_from an_seen_from cd_seen_from ct_seen_from, f_read_columns, PySem.W.fnOf "read_columns" "read_columns" (defArgs s_read_columns) (defBody s_read_columns) (defScope s_read_columns) .none kV_read_columns dc_read_columns pm_read_columns an_read_columns cd_read_columns ct_read_columns, f_read_line, PySem.W.fnOf "read_line" "read_line" (defArgs s_read_line) (defBody s_read_line) (defScope s_read_line) .none kV_read_line dc_read_line pm_read_line an_read_line cd_read_line ct_read_line, f_Schema__init, PySem.W.fnOf "__init__" "Schema.__init__" (defArgs s_Schema__init) (defBody s_Schema__init) (defScope s_Schema__init) .none kV_Schema__init dc_Schema__init pm_Schema__init an_Schema__init cd_Schema__init ct_Schema__init, f_Schema_admits, PySem.W.fnOf "admits" "Schema.admits" (defArgs s_Schema_admits) (defBody s_Schema_admits) (defScope s_Schema_admits) .none kV_Schema_admits dc_Schema_admits pm_Schema_admits an_Schema_admits cd_Schema_admits ct_Schema_admits, f_Schema_how_many, PySem.W.fnOf "how_many" "Schema.how_many" (defArgs s_Schema_how_many) (defBody s_Schema_how_many) (defScope s_Schema_how_many) .none kV_Schema_how_many dc_Schema_how_many pm_Schema_how_many an_Schema_how_many cd_Schema_how_many ct_Schema_how_many, f_Schema__len, PySem.W.fnOf "__len__" "Schema.__len__" (defArgs s_Schema__len) (defBody s_Schema__len) (defScope s_Schema__len) .none kV_Schema__len dc_Schema__len pm_Schema__len an_Schema__len cd_Schema__len ct_Schema__len, f_Schema__contains, PySem.W.fnOf "__contains__" "Schema.__contains__" (defArgs s_Schema__contains) (defBody s_Schema__contains) (defScope s_Schema__contains) .none kV_Schema__contains dc_Schema__contains pm_Schema__contains an_Schema__contains cd_Schema__contains ct_Schema__contains, f_Schema_heads, PySem.W.fnOf "heads" "Schema.heads" (defArgs s_Schema_heads) (defBody s_Schema_heads) (defScope s_Schema_heads) .none kV_Schema_heads dc_Schema_heads pm_Schema_heads an_Schema_heads cd_Schema_heads ct_Schema_heads, f_Schema_group, PySem.W.fnOf "group" "Schema.group" (defArgs s_Schema_group) (defBody s_Schema_group) (defScope s_Schema_group) .none kV_Schema_group dc_Schema_group pm_Schema_group an_Schema_group cd_Schema_group ct_Schema_group, f_Schema_kinds, PySem.W.fnOf "kinds" "Schema.kinds" (defArgs s_Schema_kinds) (defBody s_Schema_kinds) (defScope s_Schema_kinds) .none kV_Schema_kinds dc_Schema_kinds pm_Schema_kinds an_Schema_kinds cd_Schema_kinds ct_Schema_kinds, f_all_values, PySem.W.fnOf "all_values" "all_values" (defArgs s_all_values) (defBody s_all_values) (defScope s_all_values) .none kV_all_values dc_all_values pm_all_values an_all_values cd_all_values ct_all_values, f_BadSchema__init, PySem.W.fnOf "__init__" "BadSchema.__init__" (defArgs s_BadSchema__init) (defBody s_BadSchema__init) (defScope s_BadSchema__init) .none kV_BadSchema__init dc_BadSchema__init pm_BadSchema__init an_BadSchema__init cd_BadSchema__init ct_BadSchema__init, f_BadHead__init, PySem.W.fnOf "__init__" "BadHead.__init__" (defArgs s_BadHead__init) (defBody s_BadHead__init) (defScope s_BadHead__init) .none kV_BadHead__init dc_BadHead__init pm_BadHead__init an_BadHead__init cd_BadHead__init ct_BadHead__init, C_LinkedError, C_BadSchema, C_BadHead, C_Schema⟩ where
  k_l_bag := k_l_bag
  F_l_bag := fun_mk (st := s_l_bag) l_l_bag c_l_bag k_l_bag
  a_l_bag := (fun_mk (st := s_l_bag) l_l_bag c_l_bag k_l_bag).binds (ps := ["_law_script", "_law_at"]) fun _ _ _ _ _ _ us hl => match us, hl with | [_, _], _ => rfl
  m_l_bag := PySem.W.mg_of X Gm a_l_bag
  k_l_take := k_l_take
  F_l_take := fun_mk (st := s_l_take) l_l_take c_l_take k_l_take
  a_l_take := (fun_mk (st := s_l_take) l_l_take c_l_take k_l_take).binds (ps := ["_law_bag_here", "_law_many"]) fun _ _ _ _ _ _ us hl => match us, hl with | [_, _], _ => rfl
  m_l_take := PySem.W.mg_of X Gm a_l_take
  k_l_of := k_l_of
  F_l_of := fun_mk (st := s_l_of) l_l_of c_l_of k_l_of
  a_l_of := (fun_mk (st := s_l_of) l_l_of c_l_of k_l_of).binds (ps := ["_law_bag_here", "_law_some"]) fun _ _ _ _ _ _ us hl => match us, hl with | [_, _], _ => rfl
  m_l_of := PySem.W.mg_of X Gm a_l_of
  k_l_refused := k_l_refused
  F_l_refused := fun_mk (st := s_l_refused) l_l_refused c_l_refused k_l_refused
  a_l_refused := (fun_mk (st := s_l_refused) l_l_refused c_l_refused k_l_refused).binds (ps := ["_law_text"]) fun _ _ _ _ _ _ us hl => match us, hl with | [_], _ => rfl
  m_l_refused := PySem.W.mg_of X Gm a_l_refused
  k_l_fields := k_l_fields
  F_l_fields := fun_mk (st := s_l_fields) l_l_fields c_l_fields k_l_fields
  a_l_fields := (fun_mk (st := s_l_fields) l_l_fields c_l_fields k_l_fields).binds (ps := ["_law_names", "_law_tops"]) fun _ _ _ _ _ _ us hl => match us, hl with | [_, _], _ => rfl
  m_l_fields := PySem.W.mg_of X Gm a_l_fields
  k_l_product := k_l_product
  F_l_product := fun_mk (st := s_l_product) l_l_product c_l_product k_l_product
  a_l_product := (fun_mk (st := s_l_product) l_l_product c_l_product k_l_product).binds (ps := ["_law_tops"]) fun _ _ _ _ _ _ us hl => match us, hl with | [_], _ => rfl
  m_l_product := PySem.W.mg_of X Gm a_l_product
  k_l_kinds_bound := k_l_kinds_bound
  F_l_kinds_bound := fun_mk (st := s_l_kinds_bound) l_l_kinds_bound c_l_kinds_bound k_l_kinds_bound
  a_l_kinds_bound := (fun_mk (st := s_l_kinds_bound) l_l_kinds_bound c_l_kinds_bound k_l_kinds_bound).binds (ps := ["_law_bag_here", "_law_start"]) fun _ _ _ _ _ _ us hl => match us, hl with | [_, _], _ => rfl
  m_l_kinds_bound := PySem.W.mg_of X Gm a_l_kinds_bound
  k_l_right := k_l_right
  F_l_right := fun_mk (st := s_l_right) l_l_right c_l_right k_l_right
  a_l_right := (fun_mk (st := s_l_right) l_l_right c_l_right k_l_right).binds (ps := ["_law_bag_here"]) fun _ _ _ _ _ _ us hl => match us, hl with | [_], _ => rfl
  m_l_right := PySem.W.mg_of X Gm a_l_right
  k_law := k_law
  F_law := fun_mk (st := s_law) l_law c_law k_law
  a_law := (fun_mk (st := s_law) l_law c_law k_law).binds (ps := ["_law_script"]) fun _ _ _ _ _ _ us hl => match us, hl with | [_], _ => rfl
  m_law := PySem.W.mg_of X Gm a_law
  k_is_word := k_is_word
  F_is_word := fun_mk (st := s_is_word) l_is_word c_is_word k_is_word
  a_is_word := (fun_mk (st := s_is_word) l_is_word c_is_word k_is_word).binds (ps := ["text"]) fun _ _ _ _ _ _ us hl => match us, hl with | [_], _ => rfl
  m_is_word := PySem.W.mg_of X Gm a_is_word
  k_path_above := k_path_above
  F_path_above := fun_mk (st := s_path_above) l_path_above c_path_above k_path_above
  a_path_above := (fun_mk (st := s_path_above) l_path_above c_path_above k_path_above).binds (ps := ["path"]) fun _ _ _ _ _ _ us hl => match us, hl with | [_], _ => rfl
  m_path_above := PySem.W.mg_of X Gm a_path_above
  k_joined_path := k_joined_path
  F_joined_path := fun_mk (st := s_joined_path) l_joined_path c_joined_path k_joined_path
  a_joined_path := (fun_mk (st := s_joined_path) l_joined_path c_joined_path k_joined_path).binds (ps := ["path", "name"]) fun _ _ _ _ _ _ us hl => match us, hl with | [_, _], _ => rfl
  m_joined_path := PySem.W.mg_of X Gm a_joined_path
  k_seen_from := k_seen_from
  F_seen_from := fun_mk (st := s_seen_from) l_seen_from c_seen_from k_seen_from
  a_seen_from := (fun_mk (st := s_seen_from) l_seen_from c_seen_from k_seen_from).binds (ps := ["path", "longer"]) fun _ _ _ _ _ _ us hl => match us, hl with | [_, _], _ => rfl
  m_seen_from := PySem.W.mg_of X Gm a_seen_from
  k_read_columns := k_read_columns
  F_read_columns := fun_mk (st := s_read_columns) l_read_columns c_read_columns k_read_columns
  a_read_columns := (fun_mk (st := s_read_columns) l_read_columns c_read_columns k_read_columns).binds (ps := ["words"]) fun _ _ _ _ _ _ us hl => match us, hl with | [_], _ => rfl
  m_read_columns := PySem.W.mg_of X Gm a_read_columns
  k_read_line := k_read_line
  F_read_line := fun_mk (st := s_read_line) l_read_line c_read_line k_read_line
  a_read_line := (fun_mk (st := s_read_line) l_read_line c_read_line k_read_line).binds (ps := ["line", "is_first"]) fun _ _ _ _ _ _ us hl => match us, hl with | [_, _], _ => rfl
  m_read_line := PySem.W.mg_of X Gm a_read_line
  k_Schema__init := k_Schema__init
  F_Schema__init := fun_mk (st := s_Schema__init) l_Schema__init c_Schema__init k_Schema__init
  a_Schema__init := (fun_mk (st := s_Schema__init) l_Schema__init c_Schema__init k_Schema__init).binds (ps := ["self", "text"]) fun _ _ _ _ _ _ us hl => match us, hl with | [_, _], _ => rfl
  t_Schema__init := ⟨a_Schema__init, i_Schema__init, k_Schema__init⟩
  f_Schema__init := a_Schema__init
  i_Schema__init := i_Schema__init
  fi_Schema__init := fi_Schema__init
  k_Schema_admits := k_Schema_admits
  F_Schema_admits := fun_mk (st := s_Schema_admits) l_Schema_admits c_Schema_admits k_Schema_admits
  a_Schema_admits := (fun_mk (st := s_Schema_admits) l_Schema_admits c_Schema_admits k_Schema_admits).binds (ps := ["self", "path", "is_first"]) fun _ _ _ _ _ _ us hl => match us, hl with | [_, _, _], _ => rfl
  t_Schema_admits := ⟨a_Schema_admits, i_Schema_admits, k_Schema_admits⟩
  f_Schema_admits := a_Schema_admits
  i_Schema_admits := i_Schema_admits
  fi_Schema_admits := fi_Schema_admits
  k_Schema_how_many := k_Schema_how_many
  F_Schema_how_many := fun_mk (st := s_Schema_how_many) l_Schema_how_many c_Schema_how_many k_Schema_how_many
  a_Schema_how_many := (fun_mk (st := s_Schema_how_many) l_Schema_how_many c_Schema_how_many k_Schema_how_many).binds (ps := ["self", "path"]) fun _ _ _ _ _ _ us hl => match us, hl with | [_, _], _ => rfl
  t_Schema_how_many := ⟨a_Schema_how_many, i_Schema_how_many, k_Schema_how_many⟩
  f_Schema_how_many := a_Schema_how_many
  i_Schema_how_many := i_Schema_how_many
  fi_Schema_how_many := fi_Schema_how_many
  k_Schema__len := k_Schema__len
  F_Schema__len := fun_mk (st := s_Schema__len) l_Schema__len c_Schema__len k_Schema__len
  a_Schema__len := (fun_mk (st := s_Schema__len) l_Schema__len c_Schema__len k_Schema__len).binds (ps := ["self"]) fun _ _ _ _ _ _ us hl => match us, hl with | [_], _ => rfl
  t_Schema__len := ⟨a_Schema__len, i_Schema__len, k_Schema__len⟩
  f_Schema__len := a_Schema__len
  i_Schema__len := i_Schema__len
  fi_Schema__len := fi_Schema__len
  k_Schema__contains := k_Schema__contains
  F_Schema__contains := fun_mk (st := s_Schema__contains) l_Schema__contains c_Schema__contains k_Schema__contains
  a_Schema__contains := (fun_mk (st := s_Schema__contains) l_Schema__contains c_Schema__contains k_Schema__contains).binds (ps := ["self", "path"]) fun _ _ _ _ _ _ us hl => match us, hl with | [_, _], _ => rfl
  t_Schema__contains := ⟨a_Schema__contains, i_Schema__contains, k_Schema__contains⟩
  f_Schema__contains := a_Schema__contains
  i_Schema__contains := i_Schema__contains
  fi_Schema__contains := fi_Schema__contains
  k_Schema_heads := k_Schema_heads
  F_Schema_heads := fun_mk (st := s_Schema_heads) l_Schema_heads c_Schema_heads k_Schema_heads
  a_Schema_heads := (fun_mk (st := s_Schema_heads) l_Schema_heads c_Schema_heads k_Schema_heads).binds (ps := ["self"]) fun _ _ _ _ _ _ us hl => match us, hl with | [_], _ => rfl
  t_Schema_heads := ⟨a_Schema_heads, i_Schema_heads, k_Schema_heads⟩
  f_Schema_heads := a_Schema_heads
  i_Schema_heads := i_Schema_heads
  fi_Schema_heads := fi_Schema_heads
  k_Schema_group := k_Schema_group
  F_Schema_group := fun_mk (st := s_Schema_group) l_Schema_group c_Schema_group k_Schema_group
  a_Schema_group := (fun_mk (st := s_Schema_group) l_Schema_group c_Schema_group k_Schema_group).binds (ps := ["self", "path"]) fun _ _ _ _ _ _ us hl => match us, hl with | [_, _], _ => rfl
  t_Schema_group := ⟨a_Schema_group, i_Schema_group, k_Schema_group⟩
  f_Schema_group := a_Schema_group
  i_Schema_group := i_Schema_group
  fi_Schema_group := fi_Schema_group
  k_Schema_kinds := k_Schema_kinds
  F_Schema_kinds := fun_mk (st := s_Schema_kinds) l_Schema_kinds c_Schema_kinds k_Schema_kinds
  a_Schema_kinds := (fun_mk (st := s_Schema_kinds) l_Schema_kinds c_Schema_kinds k_Schema_kinds).binds (ps := ["self", "path"]) fun _ _ _ _ _ _ us hl => match us, hl with | [_, _], _ => rfl
  t_Schema_kinds := ⟨a_Schema_kinds, i_Schema_kinds, k_Schema_kinds⟩
  f_Schema_kinds := a_Schema_kinds
  i_Schema_kinds := i_Schema_kinds
  fi_Schema_kinds := fi_Schema_kinds
  k_all_values := k_all_values
  F_all_values := fun_mk (st := s_all_values) l_all_values c_all_values k_all_values
  a_all_values := (fun_mk (st := s_all_values) l_all_values c_all_values k_all_values).binds (ps := ["columns"]) fun _ _ _ _ _ _ us hl => match us, hl with | [_], _ => rfl
  m_all_values := PySem.W.mg_of X Gm a_all_values
  k_BadSchema__init := k_BadSchema__init
  F_BadSchema__init := fun_mk (st := s_BadSchema__init) l_BadSchema__init c_BadSchema__init k_BadSchema__init
  a_BadSchema__init := (fun_mk (st := s_BadSchema__init) l_BadSchema__init c_BadSchema__init k_BadSchema__init).binds (ps := ["self", "at"]) fun _ _ _ _ _ _ us hl => match us, hl with | [_, _], _ => rfl
  f_BadSchema__init := a_BadSchema__init
  ty_BadSchema__init := ty_BadSchema__init
  k_BadHead__init := k_BadHead__init
  F_BadHead__init := fun_mk (st := s_BadHead__init) l_BadHead__init c_BadHead__init k_BadHead__init
  a_BadHead__init := (fun_mk (st := s_BadHead__init) l_BadHead__init c_BadHead__init k_BadHead__init).binds (ps := ["self", "path"]) fun _ _ _ _ _ _ us hl => match us, hl with | [_, _], _ => rfl
  f_BadHead__init := a_BadHead__init
  ty_BadHead__init := ty_BadHead__init
  m_LinkedError := PySem.W.mg_of X Gm aC_LinkedError
  m_BadSchema := PySem.W.mg_of X Gm aC_BadSchema
  n_BadSchema_at := n_BadSchema_at
  e_BadSchema := ⟨⟨⟨_, _, _, _, _, _, _, _, _, _, _, _, _, _, _, xL_BadSchema, (show PySem.HandSPX.refsVE [.type "ValueError", .type "Exception", .type "BaseException", .type "object"] = true from by decide +kernel)⟩, sa_BadSchema, eb_BadSchema, tc_BadSchema, kc_BadSchema⟩, ga_BadSchema, gg_BadSchema, hd_BadSchema, ca_BadSchema, cn_BadSchema, ctk_BadSchema, cm_BadSchema⟩
  m_BadHead := PySem.W.mg_of X Gm aC_BadHead
  n_BadHead_path := n_BadHead_path
  e_BadHead := ⟨⟨⟨_, _, _, _, _, _, _, _, _, _, _, _, _, _, _, xL_BadHead, (show PySem.HandSPX.refsVE [.type "ValueError", .type "Exception", .type "BaseException", .type "object"] = true from by decide +kernel)⟩, sa_BadHead, eb_BadHead, tc_BadHead, kc_BadHead⟩, ga_BadHead, gg_BadHead, hd_BadHead, ca_BadHead, cn_BadHead, ctk_BadHead, cm_BadHead⟩
  ct_Schema := ⟨⟨pg_Schema, hd_Schema, po_Schema, sa_Schema⟩, ca_Schema, cn_Schema, ctk_Schema, cm_Schema, isc_mk ic_Schema tc_Schema, ne_Schema⟩
  m_Schema := PySem.W.mg_of X Gm aC_Schema
  mk_Schema := ⟨mk_Schema, a_Schema__init, i_Schema__init, kc_Schema⟩
  nq_Schema := nq_Schema
  n_Schema_text := n_Schema_text
  n_Schema_marks := n_Schema_marks
  n_Schema_fields := n_Schema_fields
  b_abs := PySem.W.mg_none_of X Gm b_abs
  b_int := PySem.W.mg_none_of X Gm b_int
  b_len := PySem.W.mg_none_of X Gm b_len
  b_range := PySem.W.mg_none_of X Gm b_range
  b_min := PySem.W.mg_none_of X Gm b_min
  b_max := PySem.W.mg_none_of X Gm b_max
  b_any := PySem.W.mg_none_of X Gm b_any
  b_all := PySem.W.mg_none_of X Gm b_all
  b_sorted := PySem.W.mg_none_of X Gm b_sorted
  b_tuple := PySem.W.mg_none_of X Gm b_tuple
  b_list := PySem.W.mg_none_of X Gm b_list
  b_isinstance := PySem.W.mg_none_of X Gm b_isinstance
  b_bool := PySem.W.mg_none_of X Gm b_bool
  b_str := PySem.W.mg_none_of X Gm b_str
  b_enumerate := PySem.W.mg_none_of X Gm b_enumerate
  b_zip := PySem.W.mg_none_of X Gm b_zip
  g_LETTERS := ⟨_, PySem.W.mg_of X Gm g_LETTERS⟩
  g_MOST_LINES := ⟨_, PySem.W.mg_of X Gm g_MOST_LINES⟩
  g_MOST_WORDS := ⟨_, PySem.W.mg_of X Gm g_MOST_WORDS⟩
  g_MOST_KINDS := ⟨_, PySem.W.mg_of X Gm g_MOST_KINDS⟩
theorem all_mk {l : PySem.W.OpenLaw} {w : World} {K : PySem.W.Frag} {h : Heap} {mg : Str → Option Value} {fa : Addr} {a : Ad} {kV' dc pm cd ct : Value} {an : Option Addr} (hfa : mg "law" = some (.ref fa)) (T : Txt K mg a) (e0 : a.d_law = PySem.W.fnOf "law" "law" (defArgs s_law) (defBody s_law) (defScope s_law) .none kV' dc pm an cd ct) :
    ∃ fd : FuncData, (∀ (s : Shared) (v : Value), BindsTo s fd ⟨[v], []⟩ [("_law_script", v)]) ∧ ∀ base : Heap, K.In base → base.Ns mainGlobals mg → FnOk l.prog w K mg base CX0 14 fa fd ["_law_script"] (spLaw K) := by
  have e := hfa.symm.trans T.m_law
  cases e
  refine ⟨a.d_law, fun s v => by rw [e0]; exact .of_eq rfl, fun base _ _ => ok_law T⟩
theorem walk {l : PySem.W.OpenLaw} {q : Program} {loose : List Str} {XP : (Str → Option Value) → Heap → Prop} {YP : World → Heap → Prop} {d : DefRec} {K : Params → PySem.W.Frag} (hn : l.most = some 63) (hdf : d.params.defaults = [])
    (hY : ∀ (w : World) (h : Heap), YP w h → (K w.params).In h)
    (F : ∀ (w : World) (mg : Str → Option Value) (fa : Addr) (h : Heap), (K w.params).In h → h.Ns mainGlobals mg → mg d.name = some (.ref fa) →
      ∃ fd : FuncData, (∀ (s : Shared) (u : Value), BindsTo s fd ⟨[u], []⟩ [("_law_script", u)]) ∧ ∀ base : Heap, (K w.params).In base → base.Ns mainGlobals mg → FnOk l.prog w (K w.params) mg base CX0 14 fa fd ["_law_script"] (spLaw (K w.params))) :
    PySem.W.WalkO q loose XP YP l.row.toRowW d [] (fun f vs => PySem.call f vs) :=
  L2.walk_of (n := 63) (k := 14) (x := "_law_script") (CX := fun _ => CX0) (sp := fun w => spLaw (K w.params)) hn (by decide) hdf ⟨rfl, by decide, by decide⟩ hY F (fun _ _ a ns hl _ hS => ⟨a, ns, rfl, hS, hl, fun _ => rfl⟩) fun _ _ _ _ _ z => z
end Toy
open PySem PySem.W PyProof.Rows
set_option maxRecDepth 100000 in
set_option maxHeartbeats 0 in
theorem PySem.Challenge.cw_linkedfilters_k08_bounds_of_schemas_holds : PySem.Challenge.rw_linkedfilters_k08_bounds_of_schemas.Holds := by
  w_on; o_law; k_head; (case hw => w_witness2)
  k_fill
  refine Toy.walk (l := PySem.Challenge.rw_linkedfilters_k08_bounds_of_schemas) rfl rfl (fun w h Y => PySem.W.kIn_of Y) ?F
  case F =>
    intro w mg fa h KX G hmg
    refine' Toy.all_mk (h := h) hmg (Toy.txt_mk KX G ?h_aC_LinkedError ?h_aC_BadSchema ?h_aC_BadHead ?h_aC_Schema ?h_a_l_bag ?h_l_l_bag ?h_c_l_bag ?h_k_l_bag ?h_a_l_take ?h_l_l_take ?h_c_l_take ?h_k_l_take ?h_a_l_of ?h_l_l_of ?h_c_l_of ?h_k_l_of ?h_a_l_refused ?h_l_l_refused ?h_c_l_refused ?h_k_l_refused ?h_a_l_fields ?h_l_l_fields ?h_c_l_fields ?h_k_l_fields ?h_a_l_product ?h_l_l_product ?h_c_l_product ?h_k_l_product ?h_a_l_kinds_bound ?h_l_l_kinds_bound ?h_c_l_kinds_bound ?h_k_l_kinds_bound ?h_a_l_right ?h_l_l_right ?h_c_l_right ?h_k_l_right ?h_a_law ?h_l_law ?h_c_law ?h_k_law ?h_a_is_word ?h_l_is_word ?h_c_is_word ?h_k_is_word ?h_a_path_above ?h_l_path_above ?h_c_path_above ?h_k_path_above ?h_a_joined_path ?h_l_joined_path ?h_c_joined_path ?h_k_joined_path ?h_a_seen_from ?h_l_seen_from ?h_c_seen_from ?h_k_seen_from ?h_a_read_columns ?h_l_read_columns ?h_c_read_columns ?h_k_read_columns ?h_a_read_line ?h_l_read_line ?h_c_read_line ?h_k_read_line ?h_a_Schema__init ?h_i_Schema__init ?h_fi_Schema__init ?h_l_Schema__init ?h_c_Schema__init ?h_k_Schema__init ?h_a_Schema_admits ?h_i_Schema_admits ?h_fi_Schema_admits ?h_l_Schema_admits ?h_c_Schema_admits ?h_k_Schema_admits ?h_a_Schema_how_many ?h_i_Schema_how_many ?h_fi_Schema_how_many ?h_l_Schema_how_many ?h_c_Schema_how_many ?h_k_Schema_how_many ?h_a_Schema__len ?h_i_Schema__len ?h_fi_Schema__len ?h_l_Schema__len ?h_c_Schema__len ?h_k_Schema__len ?h_a_Schema__contains ?h_i_Schema__contains ?h_fi_Schema__contains ?h_l_Schema__contains ?h_c_Schema__contains ?h_k_Schema__contains ?h_a_Schema_heads ?h_i_Schema_heads ?h_fi_Schema_heads ?h_l_Schema_heads ?h_c_Schema_heads ?h_k_Schema_heads ?h_a_Schema_group ?h_i_Schema_group ?h_fi_Schema_group ?h_l_Schema_group ?h_c_Schema_group ?h_k_Schema_group ?h_a_Schema_kinds ?h_i_Schema_kinds ?h_fi_Schema_kinds ?h_l_Schema_kinds ?h_c_Schema_kinds ?h_k_Schema_kinds ?h_a_all_values ?h_l_all_values ?h_c_all_values ?h_k_all_values ?h_a_BadSchema__init ?h_ty_BadSchema__init ?h_l_BadSchema__init ?h_c_BadSchema__init ?h_k_BadSchema__init ?h_a_BadHead__init ?h_ty_BadHead__init ?h_l_BadHead__init ?h_c_BadHead__init ?h_k_BadHead__init ?h_n_BadSchema_at ?h_xL_BadSchema ?h_sa_BadSchema ?h_eb_BadSchema ?h_tc_BadSchema ?h_kc_BadSchema ?h_ga_BadSchema ?h_gg_BadSchema ?h_hd_BadSchema ?h_ca_BadSchema ?h_cn_BadSchema ?h_ctk_BadSchema ?h_cm_BadSchema ?h_n_BadHead_path ?h_xL_BadHead ?h_sa_BadHead ?h_eb_BadHead ?h_tc_BadHead ?h_kc_BadHead ?h_ga_BadHead ?h_gg_BadHead ?h_hd_BadHead ?h_ca_BadHead ?h_cn_BadHead ?h_ctk_BadHead ?h_cm_BadHead ?h_pg_Schema ?h_hd_Schema ?h_po_Schema ?h_sa_Schema ?h_kc_Schema ?h_ca_Schema ?h_cn_Schema ?h_ctk_Schema ?h_cm_Schema ?h_ic_Schema ?h_tc_Schema ?h_ne_Schema ?h_mk_Schema ?h_nq_Schema ?h_n_Schema_text ?h_n_Schema_marks ?h_n_Schema_fields ?h_b_abs ?h_b_int ?h_b_len ?h_b_range ?h_b_min ?h_b_max ?h_b_any ?h_b_all ?h_b_sorted ?h_b_tuple ?h_b_list ?h_b_isinstance ?h_b_bool ?h_b_str ?h_b_enumerate ?h_b_zip ?h_g_LETTERS ?h_g_MOST_LINES ?h_g_MOST_WORDS ?h_g_MOST_KINDS) rfl
    (case h_aC_LinkedError => k_is); (case h_aC_BadSchema => k_is); (case h_aC_BadHead => k_is); (case h_aC_Schema => k_is); (case h_a_l_bag => k_is); (case h_l_l_bag => k_is)
    (case h_c_l_bag => k_is); (case h_k_l_bag => k_is); (case h_a_l_take => k_is); (case h_l_l_take => k_is); (case h_c_l_take => k_is); (case h_k_l_take => k_is)
    (case h_a_l_of => k_is); (case h_l_l_of => k_is); (case h_c_l_of => k_is); (case h_k_l_of => k_is); (case h_a_l_refused => k_is); (case h_l_l_refused => k_is)
    (case h_c_l_refused => k_is); (case h_k_l_refused => k_is); (case h_a_l_fields => k_is); (case h_l_l_fields => k_is); (case h_c_l_fields => k_is); (case h_k_l_fields => k_is)
    (case h_a_l_product => k_is); (case h_l_l_product => k_is); (case h_c_l_product => k_is); (case h_k_l_product => k_is); (case h_a_l_kinds_bound => k_is); (case h_l_l_kinds_bound => k_is)
    (case h_c_l_kinds_bound => k_is); (case h_k_l_kinds_bound => k_is); (case h_a_l_right => k_is); (case h_l_l_right => k_is); (case h_c_l_right => k_is); (case h_k_l_right => k_is)
    (case h_a_law => k_is); (case h_l_law => k_is); (case h_c_law => k_is); (case h_k_law => k_is); (case h_a_is_word => k_is); (case h_l_is_word => k_is)
    (case h_c_is_word => k_is); (case h_k_is_word => k_is); (case h_a_path_above => k_is); (case h_l_path_above => k_is); (case h_c_path_above => k_is); (case h_k_path_above => k_is)
    (case h_a_joined_path => k_is); (case h_l_joined_path => k_is); (case h_c_joined_path => k_is); (case h_k_joined_path => k_is); (case h_a_seen_from => k_is); (case h_l_seen_from => k_is)
    (case h_c_seen_from => k_is); (case h_k_seen_from => k_is); (case h_a_read_columns => k_is); (case h_l_read_columns => k_is); (case h_c_read_columns => k_is); (case h_k_read_columns => k_is)
    (case h_a_read_line => k_is); (case h_l_read_line => k_is); (case h_c_read_line => k_is); (case h_k_read_line => k_is); (case h_a_Schema__init => k_is); (case h_i_Schema__init => k_is)
    (case h_fi_Schema__init => k_is); (case h_l_Schema__init => k_is); (case h_c_Schema__init => k_is); (case h_k_Schema__init => k_is); (case h_a_Schema_admits => k_is); (case h_i_Schema_admits => k_is)
    (case h_fi_Schema_admits => k_is); (case h_l_Schema_admits => k_is); (case h_c_Schema_admits => k_is); (case h_k_Schema_admits => k_is); (case h_a_Schema_how_many => k_is); (case h_i_Schema_how_many => k_is)
    (case h_fi_Schema_how_many => k_is); (case h_l_Schema_how_many => k_is); (case h_c_Schema_how_many => k_is); (case h_k_Schema_how_many => k_is); (case h_a_Schema__len => k_is); (case h_i_Schema__len => k_is)
    (case h_fi_Schema__len => k_is); (case h_l_Schema__len => k_is); (case h_c_Schema__len => k_is); (case h_k_Schema__len => k_is); (case h_a_Schema__contains => k_is); (case h_i_Schema__contains => k_is)
    (case h_fi_Schema__contains => k_is); (case h_l_Schema__contains => k_is); (case h_c_Schema__contains => k_is); (case h_k_Schema__contains => k_is); (case h_a_Schema_heads => k_is); (case h_i_Schema_heads => k_is)
    (case h_fi_Schema_heads => k_is); (case h_l_Schema_heads => k_is); (case h_c_Schema_heads => k_is); (case h_k_Schema_heads => k_is); (case h_a_Schema_group => k_is); (case h_i_Schema_group => k_is)
    (case h_fi_Schema_group => k_is); (case h_l_Schema_group => k_is); (case h_c_Schema_group => k_is); (case h_k_Schema_group => k_is); (case h_a_Schema_kinds => k_is); (case h_i_Schema_kinds => k_is)
    (case h_fi_Schema_kinds => k_is); (case h_l_Schema_kinds => k_is); (case h_c_Schema_kinds => k_is); (case h_k_Schema_kinds => k_is); (case h_a_all_values => k_is); (case h_l_all_values => k_is)
    (case h_c_all_values => k_is); (case h_k_all_values => k_is); (case h_a_BadSchema__init => k_is); (case h_ty_BadSchema__init => k_is); (case h_l_BadSchema__init => k_is); (case h_c_BadSchema__init => k_is)
    (case h_k_BadSchema__init => k_is); (case h_a_BadHead__init => k_is); (case h_ty_BadHead__init => k_is); (case h_l_BadHead__init => k_is); (case h_c_BadHead__init => k_is); (case h_k_BadHead__init => k_is)
    (case h_n_BadSchema_at => k_is); (case h_xL_BadSchema => k_is); (case h_sa_BadSchema => k_is); (case h_eb_BadSchema => k_is); (case h_tc_BadSchema => k_is); (case h_kc_BadSchema => k_is)
    (case h_ga_BadSchema => k_is); (case h_gg_BadSchema => k_is); (case h_hd_BadSchema => k_is); (case h_ca_BadSchema => k_is); (case h_cn_BadSchema => k_is); (case h_ctk_BadSchema => k_is)
    (case h_cm_BadSchema => k_is); (case h_n_BadHead_path => k_is); (case h_xL_BadHead => k_is); (case h_sa_BadHead => k_is); (case h_eb_BadHead => k_is); (case h_tc_BadHead => k_is)
    (case h_kc_BadHead => k_is); (case h_ga_BadHead => k_is); (case h_gg_BadHead => k_is); (case h_hd_BadHead => k_is); (case h_ca_BadHead => k_is); (case h_cn_BadHead => k_is)
    (case h_ctk_BadHead => k_is); (case h_cm_BadHead => k_is); (case h_pg_Schema => k_is); (case h_hd_Schema => k_is); (case h_po_Schema => k_is); (case h_sa_Schema => k_is)
    (case h_kc_Schema => k_is); (case h_ca_Schema => k_is); (case h_cn_Schema => k_is); (case h_ctk_Schema => k_is); (case h_cm_Schema => k_is); (case h_ic_Schema => k_is)
    (case h_tc_Schema => k_is); (case h_ne_Schema => k_is); (case h_mk_Schema => k_is); (case h_nq_Schema => k_is); (case h_n_Schema_text => k_is); (case h_n_Schema_marks => k_is)
    (case h_n_Schema_fields => k_is); (case h_b_abs => k_is); (case h_b_int => k_is); (case h_b_len => k_is); (case h_b_range => k_is); (case h_b_min => k_is)
    (case h_b_max => k_is); (case h_b_any => k_is); (case h_b_all => k_is); (case h_b_sorted => k_is); (case h_b_tuple => k_is); (case h_b_list => k_is)
    (case h_b_isinstance => k_is); (case h_b_bool => k_is); (case h_b_str => k_is); (case h_b_enumerate => k_is); (case h_b_zip => k_is); (case h_g_LETTERS => k_is)
    (case h_g_MOST_LINES => k_is); (case h_g_MOST_WORDS => k_is); (case h_g_MOST_KINDS => k_is)

