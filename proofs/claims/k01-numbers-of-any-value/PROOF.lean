import PyProof.Rows.All
import Wide.All
import OpenK.AllK
import Wide.FinOn
import KE.KOpsOwn
import KE.RegKIsAll
import HandS.ForMost
import HandS.ForExc
import HandS.Wide
import HandS.IsInst
import HandS.Property
import HandS.Star
import HandS.SlotsOwn
import HandS.MakeKw
import HandS.Evl
import HandS.Style
import HandS.MakeKwOnly
import HandS.TupSets
import HandS.Small
import PyProof.MeetsIn
import PyProof.CallType
import PyProof.Conv_bool
import PyProof.ReprRoads
import HandS.Defaults
import KE.DataFind
import HandS.TryOnly
import KE.KSuper
import KE.KExcSuper
import KE.KExcIs
import HandS.Exc
import HandS.ExcOwn
import HandS.ExcInit
import HandS.ExcValue
import HandS.ExcField
import HandS.WordsExc
import HandS.OwnEq
import KE.KNest
import KE.KNestM
import HandS.Dict
import HandS.Lambda
import HandS.EndTab
import PySem.Challenge.RW_whatspeed_k01_numbers_of_any_value
set_option Elab.async false
set_option linter.all false
set_option maxRecDepth 100000
set_option maxHeartbeats 2000000
namespace WL
open PySem PySem.Spec PyProof.Rows L2

/-! ### operators that the bundles lack -/
def CPowW (i j : Int) : Prop := 0 ≤ j ∧ (Builtin.Int.intBits i : Int) * j ≤ 2 ^ 27
def CDivG (i j : Int) : Prop := j ≠ 0 ∧ j.natAbs.log2 < 9000
section
variable {X : Cx}
theorem op_powW : OpR X (binaryOp .Pow) (rI CPowW fun i j => .int (i ^ j.toNat)) := opI fun _ _ _ _ _ _ _ hc q => pow_int hc.1 hc.2 q
theorem op_fdivG : OpR X (binaryOp .FloorDiv) (rI CDivG fun i j => .int (i.fdiv j)) := opI fun _ _ _ _ _ _ _ hc q =>
  floordiv_int hc.1 q (.inl (PyProof.noPylong_of_log2 hc.2))
end

/-! ### an own class's operators: x op y, both instances of the class at C -/
def rOwn2 (C : Addr) (sp : Sp) (E : XK) : R2 := fun x y H Q => ∃ a dx fs b dy gs, x = .ref a ∧ y = .ref b ∧ H a = some (.ins C dx fs) ∧ H b = some (.ins C dy gs) ∧ sp [x, y] H Q E
/-- x == y, x an instance of the class at C, y of a type that is not below it -/
def rOwnEq (K : PySem.W.Frag) (C : Addr) (sp : Sp) (E : XK) : R2 := fun x y H Q => ∃ a dx fs t, x = .ref a ∧ H a = some (.ins C dx fs) ∧ TyX K H y t ∧ PySem.W.notFirst K C t = true ∧ sp [x, y] H Q E
section
variable {X : Cx} {CX : CXT} {n : Nat} {C g : Addr} {fd : FuncData} {ps : List Str} {sp : Sp} {E : XK}
theorem op_own2 {op : Operator} (F : FnOk X.prog X.w X.K X.mg X.base CX n g fd ps sp) (hb : Binds X.K fd ps []) (hs : PySem.W.findIn X.K (.ref C) (PySem.dunder op.info.2) = some (some (.ref g)))
    (hf : PySem.W.isFn X.K (.ref g) = true) (hc : PySem.W.selfFirst X.K C = true) (hr : Room n X.A) (hx : Passes CX X E) : OpR X (binaryOp op) (rOwn2 C sp E) := by
  intro pins s σ H x y v u Q I rx ry h
  obtain ⟨a, dx, fs, b, dy, gs, rfl, rfl, ha, hb', q⟩ := h
  cases (show v = Value.ref a from rx)
  cases (show u = Value.ref b from ry)
  obtain ⟨mA, J, _⟩ := ins_get I.hok ha
  obtain ⟨mB, J', _⟩ := ins_get I.hok hb'
  obtain ⟨od, J, _⟩ := J.look
  obtain ⟨od', J', _⟩ := J'.look
  obtain ⟨m, hF⟩ := I.fr
  refine PySem.W.binop_K hF I.ok.mod.kin J J'.type hc hs hf ?_
  refine wpAny_mono (run_fn (us := [.ref a, .ref b]) (vs := [.ref a, .ref b]) (dvs := []) (ds := []) F hr hb .nil hx I (.cons rfl (.cons rfl .nil)) q) (fun w s' z => ?_) fun _ _ x => x
  obtain ⟨z', H', I', rz, qz⟩ := z
  exact SlX.cmpback rz ⟨z', H', I', rz, qz⟩
theorem op_ownEq (F : FnOk X.prog X.w X.K X.mg X.base CX n g fd ps sp) (hb : Binds X.K fd ps []) (hs : PySem.W.findIn X.K (.ref C) "__eq__" = some (some (.ref g)))
    (hf : PySem.W.isFn X.K (.ref g) = true) (hr : Room n X.A) (hx : Passes CX X E) : OpR X (compareOp .Eq) (rOwnEq X.K C sp E) := by
  intro pins s σ H x y v u Q I rx ry h
  obtain ⟨a, dx, fs, t, rfl, ha, ty, hn, q⟩ := h
  cases (show v = Value.ref a from rx)
  obtain ⟨mA, J, _⟩ := ins_get I.hok ha
  obtain ⟨od, J, _⟩ := J.look
  obtain ⟨m, hF⟩ := I.fr
  obtain ⟨P, Z, p, _⟩ := kit_of I ry ty
  show wpAny (model X.prog X.w) X.A (richCompare .Eq (.ref a) u) (EP X pins σ Q) X.xe s
  refine PySem.W.cmp_K (op := .Eq) hr.units0 hF I.ok.mod.kin J (Z.ty _ _ I.kIn p) hn hs hf ?_
  refine wpAny_mono (run_fn (us := [.ref a, u]) (vs := [.ref a, y]) (dvs := []) (ds := []) F hr hb .nil hx I (.cons rfl (.cons ry .nil)) q) (fun w s' z => ?_) fun _ _ x => x
  obtain ⟨z', H', I', rz, qz⟩ := z
  exact SlX.cmpback rz ⟨z', H', I', rz, qz⟩
/-- -x -/
def rOwn1 (C : Addr) (sp : Sp) (E : XK) : V → Hp → VK → Prop := fun x H Q => ∃ a dx fs, x = .ref a ∧ H a = some (.ins C dx fs) ∧ sp [x] H Q E
theorem un_ownNeg (F : FnOk X.prog X.w X.K X.mg X.base CX n g fd ps sp) (hb : Binds X.K fd ps []) (hs : PySem.W.findIn X.K (.ref C) "__neg__" = some (some (.ref g)))
    (hf : PySem.W.isFn X.K (.ref g) = true) (hr : Room n X.A) (hx : Passes CX X E) : UnR X (unaryOp .USub) (rOwn1 C sp E) := by
  intro pins s σ H x v Q I rx h
  obtain ⟨a, dx, fs, rfl, ha, q⟩ := h
  cases (show v = Value.ref a from rx)
  obtain ⟨mA, J, _⟩ := ins_get I.hok ha
  obtain ⟨od, J, _⟩ := J.look
  obtain ⟨m, hF⟩ := I.fr
  exact PySem.W.ksp_neg hF I.ok.mod.kin J hs hf (run_fn (us := [.ref a]) (vs := [.ref a]) (dvs := []) (ds := []) F hr hb .nil hx I (.cons rfl .nil) q)
end

/-! ### x != y by an own __eq__ and object's __ne__ -/
section
variable {prog : Program} {w : World} {A : Around} {E : Value → Shared → Prop} {s : Shared} {K : PySem.W.Frag} {x C f L : Addr} {h₀ : Heap} {m : Str → Option Value} {ox : Obj} {od : Option Obj} {b tb : Value}
theorem ne_entry (X : K.In s.heap) (I : PySem.W.InstAt s.heap x ox C od) (hu : A.units < cLine) (hs : PySem.W.findIn K (.ref C) "__eq__" = some (some (.ref f))) (hf : PySem.W.isFn K (.ref f) = true) {Q : Fin → Shared → Prop}
    (h : wpAny (model prog w) A (call (.ref f) [.ref x, b]) (fun v s' => ∃ r, v = .bool r ∧ Q (.done (.ret (.bool (!r)))) s') E s) :
    wpAny (model prog w) A (Builtin.«object.__ne__» ⟨[.ref x, b], []⟩) Q E s := by
  unfold Builtin.«object.__ne__»
  repeat (first
    | with_reducible refine wpAny_cRoomFor hu ?_
    | (refine wpAny_bind (m := callSpecialIfBound? (.ref x) (Str.ofString "__eq__") [b])
        (PySem.W.ifBound_K X I hs hf (wpAny_mono h (fun r s' hr => by
          obtain ⟨b, rfl, hq⟩ := hr
          repeat (first | exact hq | exact wpAny_pure hq | exact wpAny_truthy_bool hq | (refine wpAny_bind (m := truthy (.bool _)) (wpAny_truthy_bool ?_)) | wp_step)) fun _ _ e => e)))
    | wp_step)
theorem try_ne (X : K.In s.heap) (I : PySem.W.InstAt s.heap x ox C od) (hu : A.units + 1 < cLine) (hne : PySem.W.findIn K (.ref C) "__ne__" = some (some (.builtin "object.__ne__"))) (hm : PySem.W.mroIn K C (.type "object") = some true)
    (hs : PySem.W.findIn K (.ref C) "__eq__" = some (some (.ref f))) (hf : PySem.W.isFn K (.ref f) = true) {Q : Option Value → Shared → Prop}
    (h : wpAny (model prog w) A.in1 (call (.ref f) [.ref x, b]) (fun v s' => ∃ r, v = .bool r ∧ Q (some (.bool (!r))) s') E s) :
    wpAny (model prog w) A (tryCompare (.ref x) "__ne__" b) Q E s := by
  unfold tryCompare
  simp only [callSpecialIfBound?, bindSpecialIfBound?]
  refine wpAny_bind (wpAny_holding (wpAny_bind (wpAny_bind (wpAny_bind (I.type.here ((PySem.W.looks_findIn X hne).here ?_))))))
  have call_it : ∀ {Q' : Value → Shared → Prop}, (∀ r s', Q (some (.bool (!r))) s' → Q' (.bool (!r)) s') → wpAny (model prog w) A (call (.builtin "object.__ne__") [.ref x, b]) Q' E s := fun hq =>
    wpAny_call (codeAny_call_builtin F.cmp_object.ne.plain F.cmpEntry_ne (PySem.W.check_slot F.cmpKind_ne F.cmpSplit_ne (I.type.andThen (PySem.W.looks_mroIn X hm)) (F.cmpArgs_ne _ _)
      (ne_entry (A := A.in1) X I hu hs hf (wpAny_mono h (fun v s' hv => by
        obtain ⟨r, rfl, hq'⟩ := hv
        first | exact ⟨r, rfl, hq _ _ hq'⟩ | exact ⟨r, rfl, wpAny_pure (hq _ _ hq')⟩) fun _ _ e => e))))
  simp only [F.cmp_object.ne.bind]
  refine wpAny_bind (wpAny_askSetting (wpAny_ite ?_))
  have fin : wpAny (model prog w) A (call (.builtin "object.__ne__") ([.ref x] ++ [b]) >>= fun v => pure (some v)) (fun r s' => wpAny (model prog w) A (match r with | some .notImplemented => pure none | none => pure none | some v => pure (some v)) Q E s') E s :=
    wpAny_bind (call_it fun r s' q => wpAny_pure (wpAny_pure q))
  split
  · exact wpAny_bind (wpAny_pure (wpAny_pure (by first | exact fin | exact wpAny_mono fin (fun _ _ z => z) fun _ _ z => z)))
  · exact wpAny_tryCatch (wpAny_bind (wpAny_pure (wpAny_pure (by first | exact fin | exact wpAny_mono fin (fun _ _ z => z) fun _ _ z => z))))
theorem ne_K {Q : Value → Shared → Prop} (hu : A.units + 1 < cLine) (X : K.In s.heap) (I : PySem.W.InstAt s.heap x ox C od) (hb : PySem.W.Looks (model prog w) s.heap (typeOf b) tb) (hn : PySem.W.notFirst K C tb = true)
    (hne : PySem.W.findIn K (.ref C) "__ne__" = some (some (.builtin "object.__ne__"))) (hm : PySem.W.mroIn K C (.type "object") = some true) (hs : PySem.W.findIn K (.ref C) "__eq__" = some (some (.ref f))) (hf : PySem.W.isFn K (.ref f) = true)
    (h : wpAny (model prog w) A.in1 (call (.ref f) [.ref x, b]) (fun v s' => ∃ r, v = .bool r ∧ Q (.bool (!r)) s') E s) : wpAny (model prog w) A (richCompare .NotEq (.ref x) b) Q E s := by
  have one : wpAny (model prog w) A (tryCompare (.ref x) "__ne__" b) (fun r s' => ∃ v, r = some v ∧ Q v s') E s := try_ne X I hu hne hm hs hf (wpAny_mono h (fun v s' hv => by
    obtain ⟨r, rfl, q⟩ := hv
    exact ⟨r, rfl, _, rfl, q⟩) fun _ _ e => e)
  unfold richCompare
  simp only [oneThing_ref]
  refine wpAny_holding (wpAny_bind (wpAny_cRoomFor (by omega) ?_))
  refine wpAny_bind (I.type.here (wpAny_bind (hb.here ?_)))
  split
  · rename_i q
    have e : PySem.W.subIn K tb (.ref C) = some false := by
      rcases Bool.or_eq_true_iff.mp hn with e | e
      · rw [beq_iff_eq.mp e] at q; simp at q
      · exact beq_iff_eq.mp e
    refine wpAny_bind ((PySem.W.looks_subIn X e).here ?_)
    simp only [Bool.false_eq_true, if_false]
    refine wpAny_bind (wpAny_mono one (fun r s' z => ?_) fun _ _ e => e)
    obtain ⟨v, rfl, hq⟩ := z
    exact wpAny_pure hq
  · refine wpAny_bind (wpAny_pure ?_)
    simp only [Bool.false_eq_true, if_false]
    refine wpAny_bind (wpAny_mono one (fun r s' z => ?_) fun _ _ e => e)
    obtain ⟨v, rfl, hq⟩ := z
    exact wpAny_pure hq
end
/-- x != y -/
def rOwnNe (K : PySem.W.Frag) (C : Addr) (sp : Sp) (E : XK) : R2 := fun x y H Q => ∃ a dx fs t, x = .ref a ∧ H a = some (.ins C dx fs) ∧ TyX K H y t ∧ PySem.W.notFirst K C t = true ∧ sp [x, y] H (fun z H' => ∃ r, z = .bl r ∧ Q (.bl (!r)) H') E
theorem op_ownNe {X : Cx} (K : PySem.W.Frag) {CX : CXT} {n : Nat} {C g : Addr} {fd : FuncData} {ps : List Str} {sp : Sp} {E : XK} (F : FnOk X.prog X.w X.K X.mg X.base CX n g fd ps sp) (hb : Binds X.K fd ps []) (hne : PySem.W.findIn X.K (.ref C) "__ne__" = some (some (.builtin "object.__ne__"))) (hm : PySem.W.mroIn X.K C (.type "object") = some true)
    (hs : PySem.W.findIn X.K (.ref C) "__eq__" = some (some (.ref g))) (hf : PySem.W.isFn X.K (.ref g) = true) (hr : Room (n + 1) X.A) (hx : Passes CX X E) (hK : X.K = K := by rfl) : OpR X (compareOp .NotEq) (rOwnNe K C sp E) := by
  subst hK
  intro pins s σ H x y v u Q I rx ry h
  obtain ⟨a, dx, fs, t, rfl, ha, ty, hn, q⟩ := h
  cases (show v = Value.ref a from rx)
  obtain ⟨mA, J, _⟩ := ins_get I.hok ha
  obtain ⟨od, J, _⟩ := J.look
  obtain ⟨P, Z, p, _⟩ := kit_of I ry ty
  show wpAny (model X.prog X.w) X.A (richCompare .NotEq (.ref a) u) (EP X pins σ Q) X.xe s
  refine ne_K (by have := hr.un; omega) I.kIn J (Z.ty _ _ I.kIn p) hn hne hm hs hf ?_
  have hl := F.len _ _ _ _ q
  refine wpAny_call (codeAny_mono (F.run X.A.in1 X.stack s H ⟨[.ref a, u], []⟩ [.ref a, u] [.ref a, y] _ E hr.in1 I.env0.in1 (by
    have := hb s [.ref a, u] I.kIn (by simpa using hl)
    simpa using this) (.cons rfl (.cons ry .nil)) q) fun r s' hq => ?_)
  cases r with
  | error e => exact hx pins σ H s e s' I hq
  | ok fl =>
    cases fl with
    | ret u =>
      obtain ⟨z, H', I', rz, r, ez, q'⟩ := I.after hq
      subst ez
      cases (show u = Value.bool r from rz)
      exact ⟨r, rfl, .bl (!r), H', I', rfl, q'⟩
    | next => exact False.elim hq
    | brk => exact False.elim hq
    | cont => exact False.elim hq
/-! ### calls by keywords: f(e, .., k = v), o.m(e, .., k = v) -/
def tMethK (C : Addr) (m : Str) (n mm : Nat) (sp : Sp) (gV : List V → List V → List V) (E : XK) (ta : TE) (t tk : TA) : TE := fun σ H Q => ta σ H fun x H1 => ∃ a dx fs, x = .ref a ∧ H1 a = some (.ins C dx fs) ∧ fs.lookup m = none ∧
  t σ H1 fun vs H2 => tk σ H2 fun zs H3 => vs.length = n ∧ zs.length = mm ∧ sp (gV (x :: vs) zs) H3 Q E
def tCallKN (n mm : Nat) (sp : Sp) (gV : List V → List V → List V) (E : XK) (t tk : TA) : TE := fun σ H Q => t σ H fun vs H2 => tk σ H2 fun zs H3 => vs.length = n ∧ zs.length = mm ∧ sp (gV vs zs) H3 Q E
theorem kbn_of {K : PySem.W.Frag} {x qual : Str} {st : Stmt} {f : Addr} {fd : FuncData} {ps : List Str} (F : Fun K x qual st f fd) (n : Nat) (ks : List Str) (g : {α : Type} → List α → List α → List α)
    (hrel : ∀ {vs zs : List V} {us ws : List Value}, Vals vs us → Vals zs ws → Vals (g vs zs) (g us ws))
    (h : ∀ (kV doc pm : Value) (an : Option Addr) (cdv ct : Value) (us ws : List Value), us.length = n → ws.length = ks.length →
      bindArgs (PySem.W.fnOf x qual (defArgs st) (defBody st) (defScope st) .none kV doc pm an cdv ct) ⟨us, ks.zip ws⟩ = pure (ps.zip (g us ws))) : KBn K fd ps n ks (fun us ws => g us ws) (fun vs zs => g vs zs) := by
  obtain ⟨oc, od, kV, doc, pm, an, cdv, ct, osl, rfl, lk, hcd⟩ := F.ex
  exact ⟨fun s us ws X l1 l2 => .of_eq (h kV doc pm an cdv ct us ws l1 l2), fun r1 r2 => hrel r1 r2⟩
section
variable {X : Cx} {CX : CXT} {k n : Nat} {f C : Addr} {fd : FuncData} {ps ks : List Str} {sp : Sp} {E : XK} {x m : Str} {p pos apos : Pos} {o e : Expr} {es : List Expr} {kws : List Keyword} {ta : TE} {t tk : TA} {g : List Value → List Value → List Value} {gV : List V → List V → List V}
theorem run_fnN {pins : List (Addr × Obj)} {σ : L2.St} {H : Hp} {s : Shared} {Q : VK} {us ws : List Value} {vs zs : List V} (F : FnOk X.prog X.w X.K X.mg X.base CX k f fd ps sp) (hr : Room k X.A) (hb : KBn X.K fd ps n ks g gV) (hx : Passes CX X E)
    (I : Inv X pins σ H s) (r : Vals vs us) (rz : Vals zs ws) (l1 : vs.length = n) (l2 : zs.length = ks.length) (h : sp (gV vs zs) H Q E) : wpAny (model X.prog X.w) X.A (call (.ref f) us (ks.zip ws)) (EP X pins σ Q) X.xe s := by
  have r2 := hb.rel r rz
  refine wpAny_call (codeAny_mono (F.run X.A X.stack s H ⟨us, ks.zip ws⟩ (g us ws) (gV vs zs) Q E hr I.env0 (hb.to s us ws I.kIn (r.length.symm.trans l1) (rz.length.symm.trans l2)) r2 h) fun r s' hq => ?_)
  cases r with
  | error e => exact hx pins σ H s e s' I hq
  | ok fl =>
    cases fl with
    | ret u => exact I.after hq
    | next => exact False.elim hq
    | brk => exact False.elim hq
    | cont => exact False.elim hq
/-- f(k = v, ..) -/
theorem pe_callK0 (F : FnOk X.prog X.w X.K X.mg X.base CX k f fd ps sp) (hr : Room k X.A) (hg : Gl X x) (hm : X.mg x = some (.ref f)) (hk : PySem.W.keepIn X.K (.ref f) = true) (hb : KBn X.K fd ps 0 ks g gV) (hx : Passes CX X E) (hkw : PK X kws tk)
    (hall : (backToKw pos (keywordEach kws X.env)).all (·.1.isSome) = true := by rfl) (hks : (backToKw pos (keywordEach kws X.env)).filterMap (·.1) = ks := by rfl) (hdb : (x == ("__debug__" : Str)) = false := by decide)
    (hpl : ((backTo pos (starEach [] X.env)).any (·.1) || (backToKw pos (keywordEach kws X.env)).any (·.1.isNone)) = false := by rfl) :
    PE X (.Call (.Name x p) [] kws pos) (tCallKN 0 ks.length sp gV E tNil tk) := by
  refine ⟨fun pins s σ H Q I h => ?_⟩
  refine wpAny_Call_Name_kw (ld_glob I hg hm ?_ hdb)
  refine PySem.W.callWith_KW0 (h₀ := X.base) I.ok.mod.kin hk hall ?_ hpl
  refine thn (hkw.run pos pins s σ H _ I h) fun ws s2 ⟨zs, H2, I2, rz, l1, l2, q2⟩ => ⟨I2.kIn, ?_⟩
  rw [hks]
  exact run_fnN (us := []) (vs := []) F hr hb hx I2 .nil rz rfl l2 q2
/-- o.m(k = v, ..) -/
theorem pe_methK0 {pl : Sem Bool} (he : PE X o ta) (c : Cls X.K C) (hm : Meth X.K C m f) (F : FnOk X.prog X.w X.K X.mg X.base CX k f fd ps sp) (hr : Room k X.A) (hb : KBn X.K fd ps 1 ks g gV) (hx : Passes CX X E) (hkw : PK X kws tk)
    (hall : (backToKw pos (keywordEach kws X.env)).all (·.1.isSome) = true := by rfl) (hks : (backToKw pos (keywordEach kws X.env)).filterMap (·.1) = ks := by rfl)
    (hpl : ((backTo pos (starEach [] X.env)).any (·.1) || (backToKw pos (keywordEach kws X.env)).any (·.1.isNone)) = false := by rfl)
    (ht : eval (.Call (.Attribute o m apos) [] kws pos) X.env = (do
      let ov ← eval o X.env
      standAt apos.atName
      let (f, first) ← holding [ov] (getMethod ov m pl)
      callWith pos f first (backTo pos (starEach [] X.env)) (backToKw pos (keywordEach kws X.env))) := by rfl) :
    PE X (.Call (.Attribute o m apos) [] kws pos) (tMethK C m 0 ks.length sp gV E ta tNil tk) := by
  refine ⟨fun pins s σ H Q I h => ?_⟩
  refine PySem.W.methodCall_KW (pl := pl) (thn (he.run pins s σ H _ I h) fun u s1 ⟨x, H1, I1, rx, a, dx, fs, ex, ea, l, q⟩ => ?_) ht
  subst ex
  obtain rfl : u = Value.ref a := rx
  refine getmeth_ok I1 ea c hm l ?_
  refine PySem.W.callWith_KW0 (first := [.ref a]) (h₀ := X.base) I.ok.mod.kin hm.kp hall ?_ hpl
  refine thn (hkw.run pos pins s1 σ H1 _ I1 q) fun ws s2 ⟨zs, H2, I2, rz, l1, l2, q2⟩ => ⟨I2.kIn, ?_⟩
  rw [hks]
  exact run_fnN (us := [.ref a]) (vs := [.ref a]) F hr hb hx I2 (.cons rfl .nil) rz rfl l2 q2
/-- f(e, ..), f an instance of the class at C -/
def tCallI (C : Addr) (sp : Sp) (dvs : List V) (E : XK) (tf : TE) (t : TA) : TE := fun σ H Q => tf σ H fun y H1 => ∃ a, y = V.ref a ∧ t σ H1 fun vs H2 => ∃ dx fs, H2 a = some (.ins C dx fs) ∧ sp (V.ref a :: (vs ++ dvs)) H2 Q E
theorem pe_callI {fe : Expr} {tf : TE} {dvs : List V} {ds : List Value} (hf : PE X fe tf) (c : StX.CallO X.K C f) (F : FnOk X.prog X.w X.K X.mg X.base CX k f fd ps sp) (hr : Room k X.A) (hb : Binds X.K fd ps ds) (hd : Vals dvs ds) (hx : Passes CX X E) (ha : PA X (e :: es) t)
    (ht : eval (.Call fe (e :: es) [] pos) X.env = (do callWith pos (← eval fe X.env) [] (backTo pos (starEach (e :: es) X.env)) (backToKw pos (keywordEach [] X.env))) := by rfl)
    (he : starEach (e :: es) X.env = (false, eval e X.env) :: starEach es X.env := by rfl) (hpl : (backTo pos (starEach es X.env)).any (·.1) = false := by rfl) : PE X (.Call fe (e :: es) [] pos) (tCallI C sp dvs E tf t) := by
  refine ⟨fun pins s σ H Q I h => ?_⟩
  refine Call_ (thn (hf.run pins s σ H _ I h) fun u s1 ⟨y, H1, I1, ry, a, ey, q⟩ => ?_) ht
  subst ey
  obtain rfl : u = Value.ref a := ry
  refine StX.callO_with (thn (ha.run pos pins s1 σ H1 _ I1 q) fun us s2 ⟨vs, H2, I2, r, dx, fs, hi, q2⟩ => ?_) he hpl
  obtain ⟨ox, od, J, hdt⟩ := StX.insC_at I2 (.inr ⟨dx, fs, hi⟩)
  exact ⟨⟨C, ox, od, J, hdt⟩, StX.run_callO c (F.raw hb hd) hr hx I2 (.inr ⟨dx, fs, hi⟩) r q2⟩
end
/-! ### the rules whose readings name the written part, with it told (for a comprehension's block) -/
section
variable {X : Cx} (K : PySem.W.Frag)
theorem ixT (h : X.K = K := by rfl) : IxR X (rIxT K) := h ▸ ix_tup
theorem ixL (h : X.K = K := by rfl) : IxR X (rIxL K) := h ▸ ix_list
theorem cIsi (h : X.K = K := by rfl) : CallR X (.builtin "isinstance") (rIsi K) := h ▸ call_isi
theorem opEqD (hu : X.A.units + 64 < cLine) (h : X.K = K := by rfl) : OpR X (compareOp .Eq) (rEqD K) := h ▸ op_eqD hu
theorem opNeD (hu : X.A.units + 64 < cLine) (h : X.K = K := by rfl) : OpR X (compareOp .NotEq) (rNeD K) := h ▸ op_neD hu
theorem peFld {e : Expr} {f : Str} {pos : Pos} {ta : TE} (he : PE X e ta) (hb : attributeBase e f X.env (eval e X.env) = eval e X.env := by rfl) (h : X.K = K := by rfl) : PE X (.Attribute e f pos) (tFld K ta f) := h ▸ pe_fld he hb
theorem opOwnEq {CX : CXT} {n : Nat} {C g : Addr} {fd : FuncData} {ps : List Str} {sp : Sp} {E : XK} (F : FnOk X.prog X.w X.K X.mg X.base CX n g fd ps sp) (hb : Binds X.K fd ps []) (hs : PySem.W.findIn X.K (.ref C) "__eq__" = some (some (.ref g)))
    (hf : PySem.W.isFn X.K (.ref g) = true) (hr : Room n X.A) (hx : Passes CX X E) (h : X.K = K := by rfl) : OpR X (compareOp .Eq) (rOwnEq K C sp E) := h ▸ op_ownEq F hb hs hf hr hx
theorem piList {tg l : Expr} {tl : TE} (hl : PE X l tl) (h : X.K = K := by rfl) : PI X tg l (iList K tl) := h ▸ pi_list hl
theorem piTup {tg l : Expr} {tl : TE} (hl : PE X l tl) (h : X.K = K := by rfl) : PI X tg l (iTup K tl) := h ▸ pi_tup hl
theorem pgTup (n : Nat) {es : List Expr} {k : Nat} {t : TGs} {pos : Pos} (hc : X.calm = true) (hh : PGs X es t)
    (hn : (assignEach es X.env).length = n := by rfl) (hst : (assignEach es X.env).findIdx? (·.1) = none := by rfl) (h : X.K = K := by rfl) : PG X (.Tuple es k pos) (gTup K n t) := h ▸ pg_tup hc hh hn hst
end
theorem stT {σ σ' : L2.St} {ta tb : TS} {D : Ends} {H : Hp} (e : σ = σ') (h : tSeq ta tb D σ' H) : tSeq ta tb D σ H := e ▸ h
end WL
namespace WM
/-! ### fractions: core Rat -/
theorem gcd_pos {t b : Int} (hb : b ≠ 0) : 0 < b.gcd t := Int.gcd_pos_of_ne_zero_left _ hb
theorem fdiv_pos' {a : Int} {g : Nat} (hg : 0 < g) : a.fdiv (g : Int) = a / (g : Int) := Int.fdiv_eq_ediv_of_nonneg _ (by omega)
theorem fdiv_dvd {a k g : Int} (hg : g ≠ 0) (h : a = g * k) : a.fdiv g = k := by
  subst h
  rw [Int.mul_comm]
  exact Int.mul_fdiv_cancel _ hg
theorem ediv_dvd {a k g : Int} (hg : g ≠ 0) (h : a = g * k) : a / g = k := by
  subst h
  exact Int.mul_ediv_cancel_left _ hg
/-- what Number keeps above the stroke -/
theorem make_num {t b : Int} {g : Nat} (hb : b ≠ 0) (e : g = Nat.gcd t.natAbs b.natAbs) : t.fdiv (if b < 0 then -(g : Int) else (g : Int)) = (Rat.divInt t b).num := by
  have eg : b.gcd t = g := by rw [e, Int.gcd, Nat.gcd_comm]
  have hg : 0 < g := eg ▸ gcd_pos hb
  rw [Rat.num_divInt, eg]
  have hd : (g : Int) ∣ t := by rw [← eg]; exact Int.gcd_dvd_right ..
  obtain ⟨k, hk⟩ := hd
  have hg' : (g : Int) ≠ 0 := by omega
  by_cases hn : b < 0
  · rw [if_pos hn, Int.sign_eq_neg_one_of_neg hn, fdiv_dvd (k := -k) (by omega) (by rw [hk, Int.neg_mul_neg]), ediv_dvd (k := -k) hg' (by rw [hk, Int.neg_one_mul, Int.mul_neg])]
  · rw [if_neg hn, Int.sign_eq_one_of_pos (by omega), fdiv_dvd hg' hk, ediv_dvd (k := k) hg' (by rw [hk, Int.one_mul])]
theorem make_den {t b : Int} {g : Nat} (hb : b ≠ 0) (e : g = Nat.gcd t.natAbs b.natAbs) : b.fdiv (if b < 0 then -(g : Int) else (g : Int)) = ((Rat.divInt t b).den : Int) := by
  have eg : b.gcd t = g := by rw [e, Int.gcd, Nat.gcd_comm]
  have hg : 0 < g := eg ▸ gcd_pos hb
  rw [Rat.den_divInt, if_neg hb, eg]
  have hd : (g : Int) ∣ b := by rw [← eg]; exact Int.gcd_dvd_left ..
  obtain ⟨k, hk⟩ := hd
  have hg' : (g : Int) ≠ 0 := by omega
  have h2 : b.natAbs / g = k.natAbs := by
    rw [hk, Int.natAbs_mul, Int.natAbs_natCast]
    exact Nat.mul_div_cancel_left _ hg
  have hp : 0 < (g : Int) := by omega
  rw [h2]
  by_cases hn : b < 0
  · rw [if_pos hn, fdiv_dvd (k := -k) (by omega) (by rw [hk, Int.neg_mul_neg])]
    have : k < 0 := by
      rcases Int.lt_or_le k 0 with h | h
      · exact h
      · have := Int.mul_nonneg (Int.le_of_lt hp) h
        omega
    omega
  · rw [if_neg hn, fdiv_dvd hg' hk]
    have : 0 ≤ k := by
      rcases Int.lt_or_le k 0 with h | h
      · have := Int.mul_neg_of_pos_of_neg hp h
        omega
      · exact h
    omega
/-- what a law's own reduction gives: sign * t // g, |b| // g -/
theorem least_num {t b : Int} {g : Nat} (hb : b ≠ 0) (e : g = Nat.gcd t.natAbs b.natAbs) : ((if b < 0 then -1 else 1) * t).fdiv (g : Int) = (Rat.divInt t b).num := by
  have eg : b.gcd t = g := by rw [e, Int.gcd, Nat.gcd_comm]
  have hg : 0 < g := eg ▸ gcd_pos hb
  rw [Rat.num_divInt, eg, fdiv_pos' hg]
  by_cases hn : b < 0
  · rw [if_pos hn, Int.sign_eq_neg_one_of_neg hn]
  · rw [if_neg hn, Int.sign_eq_one_of_pos (by omega)]
theorem least_den {t b : Int} {g : Nat} (hb : b ≠ 0) (e : g = Nat.gcd t.natAbs b.natAbs) : (if b < 0 then -b else b).fdiv (g : Int) = ((Rat.divInt t b).den : Int) := by
  have eg : b.gcd t = g := by rw [e, Int.gcd, Nat.gcd_comm]
  have hg : 0 < g := eg ▸ gcd_pos hb
  rw [Rat.den_divInt, if_neg hb, eg, fdiv_pos' hg]
  have : (if b < 0 then -b else b) = (b.natAbs : Int) := by split <;> omega
  rw [this]
  rfl
theorem gcd_ne {t b : Int} {g : Nat} (hb : b ≠ 0) (e : g = Nat.gcd t.natAbs b.natAbs) : 0 < g := by
  have eg : b.gcd t = g := by rw [e, Int.gcd, Nat.gcd_comm]
  exact eg ▸ gcd_pos hb
theorem gcd_le {t b : Int} {g : Nat} (hb : b ≠ 0) (e : g = Nat.gcd t.natAbs b.natAbs) : g ≤ b.natAbs := by
  rw [e]
  exact Nat.gcd_le_right _ (by omega)
/-! ### sizes -/
def Bd (n : Nat) (q : Rat) : Prop := q.num.natAbs < 2 ^ n ∧ q.den < 2 ^ n
theorem two_le {m n : Nat} (h : m ≤ n) : 2 ^ m ≤ 2 ^ n := Nat.pow_le_pow_right (by decide) h
theorem Bd.mono {m n : Nat} {q : Rat} (h : Bd m q) (l : m ≤ n) : Bd n q := ⟨Nat.lt_of_lt_of_le h.1 (two_le l), Nat.lt_of_lt_of_le h.2 (two_le l)⟩
theorem den_ne (q : Rat) : (q.den : Int) ≠ 0 := by have := q.den_pos; omega
theorem den_pos' (q : Rat) : 0 < (q.den : Int) := by have := q.den_pos; omega
theorem Bd.mk' {n : Nat} {t b : Int} (hb : b ≠ 0) (h1 : t.natAbs < 2 ^ n) (h2 : b.natAbs < 2 ^ n) : Bd n (Rat.divInt t b) := by
  refine ⟨?_, ?_⟩
  · rw [Rat.num_divInt]
    refine Nat.lt_of_le_of_lt ?_ h1
    have hg : 0 < b.gcd t := gcd_pos hb
    have hd : ((b.gcd t : Nat) : Int) ∣ b.sign * t := Int.dvd_mul_of_dvd_right (Int.gcd_dvd_right ..)
    obtain ⟨k, hk⟩ := hd
    rw [ediv_dvd (k := k) (by omega) hk]
    have h3 : (b.sign * t).natAbs = t.natAbs := by
      rw [Int.natAbs_mul, Int.natAbs_sign_of_ne_zero hb, Nat.one_mul]
    have h4 : (b.sign * t).natAbs = b.gcd t * k.natAbs := by rw [hk, Int.natAbs_mul, Int.natAbs_natCast]
    rw [← h3, h4]
    exact Nat.le_mul_of_pos_left _ hg
  · rw [Rat.den_divInt, if_neg hb]
    exact Nat.lt_of_le_of_lt (Nat.div_le_self _ _) h2
theorem add_eq (p q : Rat) : Rat.divInt (p.num * q.den + q.num * p.den) (p.den * q.den) = p + q := by
  conv => rhs; rw [← Rat.num_divInt_den p, ← Rat.num_divInt_den q]
  rw [Rat.divInt_add_divInt _ _ (den_ne p) (den_ne q)]
theorem sub_eq (p q : Rat) : Rat.divInt (p.num * q.den - q.num * p.den) (p.den * q.den) = p - q := by
  conv => rhs; rw [← Rat.num_divInt_den p, ← Rat.num_divInt_den q]
  rw [Rat.divInt_sub_divInt _ _ (den_ne p) (den_ne q)]
theorem mul_eq (p q : Rat) : Rat.divInt (p.num * q.num) (p.den * q.den) = p * q := by
  conv => rhs; rw [← Rat.num_divInt_den p, ← Rat.num_divInt_den q]
  rw [Rat.divInt_mul_divInt]
theorem div_eq (p q : Rat) : Rat.divInt (p.num * q.den) (p.den * q.num) = p / q := by
  rw [Rat.div_def, Rat.inv_def]
  conv => rhs; rw [← Rat.num_divInt_den p]
  rw [Rat.divInt_mul_divInt]
theorem neg_eq (p : Rat) : Rat.divInt (-p.num) p.den = -p := by
  conv => rhs; rw [← Rat.num_divInt_den p]
  rw [Rat.neg_divInt]
theorem mul_lt {a b m n : Nat} (ha : a < 2 ^ m) (hb : b < 2 ^ n) : a * b < 2 ^ (m + n) := by
  rw [Nat.pow_add]
  exact Nat.mul_lt_mul'' ha hb
theorem imul_lt {a b : Int} {m n : Nat} (ha : a.natAbs < 2 ^ m) (hb : b.natAbs < 2 ^ n) : (a * b).natAbs < 2 ^ (m + n) := by
  rw [Int.natAbs_mul]
  exact mul_lt ha hb
theorem iadd_lt {a b : Int} {n : Nat} (ha : a.natAbs < 2 ^ n) (hb : b.natAbs < 2 ^ n) : (a + b).natAbs < 2 ^ (n + 1) := by
  have : (a + b).natAbs ≤ a.natAbs + b.natAbs := Int.natAbs_add_le a b
  rw [Nat.pow_succ]
  omega
theorem isub_lt {a b : Int} {n : Nat} (ha : a.natAbs < 2 ^ n) (hb : b.natAbs < 2 ^ n) : (a - b).natAbs < 2 ^ (n + 1) := by
  have : (a - b).natAbs ≤ a.natAbs + b.natAbs := by omega
  rw [Nat.pow_succ]
  omega
theorem up_lt {a m n : Nat} (h : a < 2 ^ m) (l : m ≤ n) : a < 2 ^ n := Nat.lt_of_lt_of_le h (two_le l)
theorem Bd.den' {n : Nat} {q : Rat} (h : Bd n q) : ((q.den : Int)).natAbs < 2 ^ n := by rw [Int.natAbs_natCast]; exact h.2
theorem Bd.add {m n : Nat} {p q : Rat} (h : Bd m p) (k : Bd n q) : Bd (m + n + 1) (p + q) := by
  rw [← add_eq]
  refine Bd.mk' (Int.mul_ne_zero (den_ne p) (den_ne q)) (iadd_lt (imul_lt h.1 k.den') (up_lt (imul_lt k.1 h.den') (by omega))) (up_lt (imul_lt h.den' k.den') (by omega))
theorem Bd.sub {m n : Nat} {p q : Rat} (h : Bd m p) (k : Bd n q) : Bd (m + n + 1) (p - q) := by
  rw [← sub_eq]
  refine Bd.mk' (Int.mul_ne_zero (den_ne p) (den_ne q)) (isub_lt (imul_lt h.1 k.den') (up_lt (imul_lt k.1 h.den') (by omega))) (up_lt (imul_lt h.den' k.den') (by omega))
theorem Bd.mul {m n : Nat} {p q : Rat} (h : Bd m p) (k : Bd n q) : Bd (m + n) (p * q) := by
  rw [← mul_eq]
  exact Bd.mk' (Int.mul_ne_zero (den_ne p) (den_ne q)) (imul_lt h.1 k.1) (imul_lt h.den' k.den')
theorem num_ne {q : Rat} (h : q ≠ 0) : q.num ≠ 0 := fun e => h (Rat.num_eq_zero.mp e)
theorem Bd.div {m n : Nat} {p q : Rat} (h : Bd m p) (k : Bd n q) (hq : q ≠ 0) : Bd (m + n) (p / q) := by
  rw [← div_eq]
  exact Bd.mk' (Int.mul_ne_zero (den_ne p) (num_ne hq)) (imul_lt h.1 k.den') (imul_lt h.den' k.1)
theorem Bd.neg {m : Nat} {p : Rat} (h : Bd m p) : Bd m (-p) := by
  refine ⟨?_, ?_⟩
  · rw [show (-p).num = -p.num from rfl, Int.natAbs_neg]; exact h.1
  · rw [show (-p).den = p.den from rfl]; exact h.2
theorem log2_lt {a n : Nat} (h0 : 0 < n) (h : a < 2 ^ n) : a.log2 < n := by
  by_cases ha : a = 0
  · subst ha; rw [Nat.log2_zero]; exact h0
  · exact (Nat.log2_lt ha).mpr h
/-- equal fractions: the same above and below -/
theorem eq_iff (p q : Rat) : p = q ↔ p.num = q.num ∧ p.den = q.den := ⟨fun e => by rw [e]; exact ⟨rfl, rfl⟩, fun ⟨a, b⟩ => Rat.ext a b⟩
end WM
namespace WO
open PySem PySem.Spec PyProof.Rows L2
open Sem (wp)
/-! ### a type's call, for one program -/
section
variable {prog : Program} {w : World} {A : Around} {E : Value → Shared → Prop} {s : Shared}
theorem typeCall_in {T newId initId : String} {Bn Bi : Builtin} {args : List Value} {S : PySem.Spec} {Q Q₁ : Value → Shared → Prop} (ft : TypeCalled T newId initId)
    (hct : checkTypeCall T ⟨args, []⟩ = pure ()) (hcn : checkBuiltinCall newId ⟨.type T :: args, []⟩ = pure ())
    (entryN : entryFor table newId = some Bn) (entryI : entryFor table initId = some Bi) (g : MeetsIn prog w (Bn ⟨.type T :: args, []⟩) S)
    (h : S A.in1 (wants Q₁ E) s)
    (hnext : ∀ obj s₁, Q₁ obj s₁ → s₁.TypeIs obj T ∧ argsOk initId ⟨obj :: args, []⟩ ∧ ∃ Si, Meets (Bi ⟨obj :: args, []⟩) Si ∧ Si A.in1 (wants (fun r s₂ => r = .none ∧ Q obj s₂) E) s₁) :
    wpAny (model prog w) A (call (.type T) args) Q E s := by
  obtain ⟨c, tl, hmro⟩ := ft.mro
  have hmade := ft.made
  have hsub := ft.sub
  refine wpAny_call (codeAny_of_tree ?_)
  show wpAny _ _ (callAny (.type T) _) _ _ _
  refine wpAny_pure ⟨Code.quiet_builtin _ (by decide +kernel), codeAny_builtin F.entry_type_call ?_⟩
  rw [Around.under_plain (weight_type_call_type T args []) (units_type_call_type T args [])]
  have h1 := ft.notType
  have h2 := ft.canCreate
  repeat (any_goals (first | assumption | wp_step))
  refine codeAny_mono (codeAny_call_builtin ft.plain entryN (wpAny_of_eq hcn (g A.in1 _ s h))) fun r s₁ hr => ?_
  cases r with
  | error e => exact hr
  | ok fl =>
    cases fl with
    | ret obj =>
      obtain ⟨hT, hok, Si, gi, hsi⟩ := hnext _ _ hr
      have hli := ft.init.lookup
      have hbi := ft.init.bind obj
      repeat (any_goals (first | assumption | wp_step))
      refine codeAny_mono (codeAny_call_builtin ft.init.plain entryI (ft.init.check _ _ _ _ _ _ _ _ hT hok (gi prog w A.in1 _ s₁ hsi))) fun r₂ s₂ hr₂ => ?_
      cases r₂ with
      | error e => exact hr₂
      | ok fl₂ =>
        cases fl₂ with
        | ret r =>
          obtain ⟨rfl, hq⟩ := hr₂
          repeat (any_goals (first | assumption | wp_step))
        | _ => exact hr₂.elim
    | _ => exact hr.elim
theorem bool_in {x : Value} {Q : Value → Shared → Prop} (h : wpAny (model prog w) A.in1.in1 (truthy x) (fun b s' => Q (.bool b) s') E s) : wpAny (model prog w) A (call (.type "bool") [x]) Q E s := by
  refine typeCall_in (S := fun A R s => wpAny (model prog w) A.in1 (truthy x) (fun b s' => R (.ok (.ret (.bool b))) s') (fun e s' => R (.error e) s') s) F.called_bool (F.typeCall_bool_1 x) (F.newCall_bool_1 x) F.entry_bool_new F.entry_object_init
    (MeetsIn.of_wp fun A R s hs => ?_) (Q₁ := fun obj s₁ => s₁.TypeIs obj "bool" ∧ Q obj s₁) (wpAny_mono h (fun b s' q => ⟨rfl, q⟩) fun _ _ z => z) fun obj _ hq =>
    ⟨hq.1, F.args_object_init_2 obj x, _, object_init_meets F.called_bool.init.lookup F.called_bool.made F.newNe_bool, hq.1, rfl, hq.2⟩
  have f1 := F.conv_sub_bool
  obtain ⟨hp, g, d, tk, os⟩ := s
  repeat (any_goals (first | assumption | (with_reducible refine wpAny_bind (wpAny_mono hs (fun b s' q => ?_) fun _ _ z => z)) | wp_step))
  all_goals first | exact ⟨_, rfl, q⟩ | skip
end

def sB (b : Bool) : Str := if b = true then "True" else "False"
/-! ### abs(x), bool(x) by an own class's methods; repr of a bool; len of a set of tuples -/
section
variable {X : Cx} {CX : CXT} {n : Nat} {C g : Addr} {fd : FuncData} {ps : List Str} {sp : Sp} {E : XK}
def rOwnCall1 (C : Addr) (sp : Sp) (E : XK) : List V → Hp → VK → Prop := fun xs H Q => ∃ a dx fs, xs = [.ref a] ∧ H a = some (.ins C dx fs) ∧ sp [.ref a] H Q E
theorem call_ownAbs (F : FnOk X.prog X.w X.K X.mg X.base CX n g fd ps sp) (hb : Binds X.K fd ps []) (hs : PySem.W.findIn X.K (.ref C) "__abs__" = some (some (.ref g)))
    (hf : PySem.W.isFn X.K (.ref g) = true) (hr : Room (n + 1) X.A) (hx : Passes CX X E) : CallR X (.builtin "abs") (rOwnCall1 C sp E) := by
  intro pins s σ H xs us Q I r h
  obtain ⟨a, dx, fs, rfl, ha, q⟩ := h
  obtain rfl := Vals.ref1 r
  obtain ⟨mA, J, _⟩ := ins_get I.hok ha
  obtain ⟨od, J, _⟩ := J.look
  obtain ⟨m, hF⟩ := I.fr
  refine Calls.call_function_entry kind_abs plain_abs entry_abs (args_abs _) ?_
  unfold Builtin.«abs»
  refine wpAny_bind (m := oneArg "abs" _) (wpAny_pure ?_)
  have hl := F.len _ _ _ _ q
  refine wpAny_bind (m := callSpecial? (.ref a) (Str.ofString "__abs__")) (PySem.W.special_fn I.kIn J hs (beq_iff_eq.mp hf) ?_)
  refine wpAny_call (codeAny_mono (F.run X.A.in1 X.stack s H ⟨[.ref a], []⟩ [.ref a] [.ref a] _ E hr.in1 I.env0.in1 (by
    have := hb s [.ref a] I.kIn (by simpa using hl)
    simpa using this) (.cons rfl .nil) q) fun r s' hq => ?_)
  cases r with
  | error e => exact hx pins σ H s e s' I hq
  | ok fl =>
    cases fl with
    | ret u => exact wpAny_pure ⟨_, rfl, I.after hq⟩
    | next => exact False.elim hq
    | brk => exact False.elim hq
    | cont => exact False.elim hq
/-- bool(x) -/
def rOwnBool (C : Addr) (sp : Sp) (E : XK) : List V → Hp → VK → Prop := fun xs H Q => ∃ a dx fs, xs = [.ref a] ∧ H a = some (.ins C dx fs) ∧ sp [.ref a] H (fun z H' => ∃ r, z = .bl r ∧ Q (.bl r) H') E
theorem call_ownBool (F : FnOk X.prog X.w X.K X.mg X.base CX n g fd ps sp) (hb : Binds X.K fd ps []) (hs : PySem.W.findIn X.K (.ref C) "__bool__" = some (some (.ref g)))
    (hf : PySem.W.isFn X.K (.ref g) = true) (hr : Room (n + 2) X.A) (hx : Passes CX X E) : CallR X (.type "bool") (rOwnBool C sp E) := by
  intro pins s σ H xs us Q I r h
  obtain ⟨a, dx, fs, rfl, ha, q⟩ := h
  obtain rfl := Vals.ref1 r
  obtain ⟨mA, J, _⟩ := ins_get I.hok ha
  obtain ⟨od, J, _⟩ := J.look
  obtain ⟨m, hF⟩ := I.fr
  refine bool_in (PySem.W.truthy_K hF I.ok.mod.kin J hs hf ?_)
  have hl := F.len _ _ _ _ q
  have hr2 : Room n X.A.in1.in1 := Room.in1 (Room.in1 hr)
  refine wpAny_call (codeAny_mono (F.run X.A.in1.in1 X.stack s H ⟨[.ref a], []⟩ [.ref a] [.ref a] _ E hr2 I.env0.in1.in1 (by
    have := hb s [.ref a] I.kIn (by simpa using hl)
    simpa using this) (.cons rfl .nil) q) fun r s' hq => ?_)
  cases r with
  | error e => exact hx pins σ H s e s' I hq
  | ok fl =>
    cases fl with
    | ret u =>
      obtain ⟨z, H', I', rz, r, ez, q'⟩ := I.after hq
      subst ez
      cases (show u = Value.bool r from rz)
      exact ⟨.bl r, H', I', rfl, q'⟩
    | next => exact False.elim hq
    | brk => exact False.elim hq
    | cont => exact False.elim hq
/-- repr(a bool) -/
theorem call_repr_bl : CallR X (.builtin "repr") (fun xs H Q => ∃ b, xs = [.bl b] ∧ Q (.str (sB b)) H) := by
  intro pins s σ H xs us Q I r h
  obtain ⟨b, rfl, q⟩ := h
  obtain ⟨u, rfl, ru⟩ := vals1 r
  cases (show u = Value.bool b from ru)
  exact PySem.P.repr_of_bool ⟨.str _, H, I.tok _, ⟨_, by cases b <;> rfl⟩, q⟩
/-- len(a set of tuples of ints) -/
def rLenT (K : PySem.W.Frag) (P : Program) (w : World) : List V → Hp → VK → Prop := fun vs H Q => ∃ (a : Addr) (L : List (Addr × List Int)), vs = [V.ref a] ∧ H a = some (SetTO P w a L) ∧ (∀ p ∈ L, SqT K H p.1 (p.2.map V.int)) ∧ ((L.map (·.2)).Nodup → Q (.int L.length) H)
theorem cr_lenT : CallR X (.builtin "len") (rLenT X.K X.prog X.w) := by
  intro pins s σ H vs us Q I r h
  obtain ⟨a, L, rfl, ha, hk, q⟩ := h
  have R0 : SetT0 X.prog X.w s.heap a L := (I.hok a _ ha).1
  obtain ⟨es, ep, t, R⟩ := R0.full fun p hp => I.isT (hk p hp)
  rw [Vals.ref1 r]
  obtain ⟨o, ho, hex, hd⟩ := R.ob
  have hn := R.size
  have hf := R.few
  refine call_len_set ho hex hd R.fits (by omega) ⟨.int L.length, H, I.tok _, ⟨_, by rw [hn]⟩, q R.nd⟩
end
end WO
namespace WG
open PySem PySem.Spec PyProof.Rows L2

/-! ### a def's promise where no repr is under way around it -/
abbrev NoG (A : Around) : Prop := A.guards = some []
structure FnG (P : Program) (w : World) (K : PySem.W.Frag) (mg : Str → Option Value) (base : Heap) (CX : CXT) (k : Nat) (f : Addr) (fd : FuncData) (ps : List Str) (sp : Sp) : Prop where
  ln : ∀ xs Hp0 Qv Ex, sp xs Hp0 Qv Ex → xs.length = ps.length
  go : ∀ (A : Around) (out : List Env) (s : Shared) (H : Hp) (args : Args) (us : List Value) (xs : List V) (Qv : VK) (Ex : XK), NoG A → Room k A → Env0 P w K mg base A out s H → BindsTo s fd args (ps.zip us) →
    Vals xs us → sp xs H Qv Ex → codeAny (model P w) A (.call (.ref f) args) (CR CX out P w H s Qv Ex) s
section
variable {P : Program} {w : World} {K : PySem.W.Frag} {mg : Str → Option Value} {base : Heap} {CX : CXT} {k : Nat} {f : Addr} {fd : FuncData} {ps : List Str} {sp : Sp}
theorem FnG.mono {j : Nat} (F : FnG P w K mg base CX j f fd ps sp) (h : j ≤ k) : FnG P w K mg base CX k f fd ps sp :=
  ⟨F.ln, fun A out s H args us xs Qv Ex g r => F.go A out s H args us xs Qv Ex g (r.mono h)⟩
end
/-- a def by its body -/
theorem fnG_of {CX : CXT} {P : Program} {w : World} {K : PySem.W.Frag} {mg : Str → Option Value} {base : Heap} {k : Nat} {f : Addr} {nm qual : Str} {pr : Arguments} {bd : List Stmt} {sc : Scope} {dV kV doc pm cdv ct oc : Value} {an od : Option Addr}
    {osl : Array (Option Value)} {N ps : List Str} {sp : Sp} (lk : K.lookup f = some ⟨oc, od, .func (PySem.W.fnOf nm qual pr bd sc dV kV doc pm an cdv ct), osl⟩) (hc : PySem.W.codeIn K cdv qual = true) (S : FnScope N ps sc)
    (ln : ∀ xs Hp0 Qv Ex, sp xs Hp0 Qv Ex → xs.length = ps.length)
    (hb : ∀ (A : Around) (out : List Env) (s : Shared) (H : Hp) (xs : List V) (Qv : VK) (Ex : XK), NoG A → Room k (A.deeper (envOfC qual sc s.heap.objs.size f cdv)) → sp xs H Qv Ex →
      ∃ t, PSs (cxOf CX P w K mg base N qual sc f cdv A out s H Ex) bd t ∧ t { nx := fun _ H1 => Qv .non H1, rt := Qv } (start N xs) H) :
    FnG P w K mg base CX (k + 1) f (PySem.W.fnOf nm qual pr bd sc dV kV doc pm an cdv ct) ps sp := by
  refine ⟨ln, fun A out s H args us xs Qv Ex g r e0 bnd rel hq => ?_⟩
  have hin : ∀ b o, base.get? b = some o → s.heap.get? b = some o := fun b o e => (e0.bs b o e).1
  have KX : K.In s.heap := e0.mod.kin.keeps hin
  have slots : ∀ y ∈ ps.zip us, sc.names.lookup y.1 = some .local ∨ (sc.names.lookup y.1 = some .cell ∧ ((cellsFrom (s.heap.objs.size + 1) sc.names []).lookup y.1).isSome = true) := by
    rintro ⟨n, v⟩ hy
    exact (S.par n (List.of_mem_zip hy).1).imp id fun q => ⟨q, PySem.W.cellsFrom_some _ _ _ (.inl q)⟩
  refine codeAny_call_function r.depth (KX _ _ lk) rfl S.co S.gen rfl (PySem.W.codeRec_of KX hc) (bnd _ _ _ _ (wpAny_newFunctionEnv_cells S.kind slots fun env he s1 x => ?_))
  subst he
  refine ⟨(e0.mod.nolimit.keeps hin).keeps x.toInCall.keep, codeAny_func ?_⟩
  obtain ⟨t, ht, q⟩ := hb A out s H xs Qv Ex g (r.deeper _) hq
  have I0 := inv_start (CX := CX) (P := P) (w := w) (E := Ex) S r.hd e0 (ln _ _ _ _ hq) rel x
  refine wpAny_mono (ht.run [] s1 (start N xs) H _ I0 q) (fun fl s2 z => ?_) fun _ _ z => z
  cases fl with
  | brk => exact (z.choose_spec.choose_spec.2 : False).elim
  | cont => exact (z.choose_spec.choose_spec.2 : False).elim
  | next =>
    obtain ⟨σ2, H2, J, q2⟩ := z
    exact ⟨V.non, H2, J.os, J.bare, J.base, J.hok, rfl, q2⟩
  | ret u =>
    obtain ⟨y, σ2, H2, J, ry, q2⟩ := z
    exact ⟨y, H2, J.os, J.bare, J.base, J.hok, ry, q2⟩
section
variable {P : Program} {w : World} {K : PySem.W.Frag} {mg : Str → Option Value} {base : Heap}
theorem okG {x qual : Str} {st : Stmt} {f : Addr} {fd : FuncData} {N ps : List Str} {k : Nat} {sp : Sp} (F : Fun K x qual st f fd) (S : FnScope N ps (defScope st)) (ln : ∀ xs Hp0 Qv Ex, sp xs Hp0 Qv Ex → xs.length = ps.length)
    (hb : ∀ (cdv : Value) (A : Around) (out : List Env) (s : Shared) (H : Hp) (xs : List V) (Qv : VK) (Ex : XK), NoG A → Room k (A.deeper (envOfC qual (defScope st) s.heap.objs.size f cdv)) → sp xs H Qv Ex →
      ∃ t, PSs (cxOf CX0 P w K mg base N qual (defScope st) f cdv A out s H Ex).nox (defBody st) t ∧ t { nx := fun _ H1 => Qv .non H1, rt := Qv } (start N xs) H) : FnG P w K mg base CX0 (k + 1) f fd ps sp := by
  obtain ⟨oc, od, kV, doc, pm, an, cdv, ct, osl, rfl, lk, hc⟩ := F.ex
  refine fnG_of lk hc S ln fun A out s H xs Qv Ex g r hq => ?_
  obtain ⟨t, h, q⟩ := hb cdv A out s H xs Qv Ex g r hq
  exact ⟨t, h.nox, q⟩
end
section
variable {X : Cx} {CX : CXT} {k : Nat} {f : Addr} {fd : FuncData} {ps : List Str} {sp : Sp} {E : XK} {x : Str} {p pos : Pos} {e : Expr} {es : List Expr} {t : TA}
/-- f(..) there -/
theorem pe_callG (F : FnG X.prog X.w X.K X.mg X.base CX k f fd ps sp) (g : NoG X.A) (hr : Room k X.A) (hg : Gl X x) (hm : X.mg x = some (.ref f)) (hk : PySem.W.keepIn X.K (.ref f) = true) (hb : Binds X.K fd ps []) (hx : Passes CX X E)
    (ha : PA X (e :: es) t) (hdb : (x == ("__debug__" : Str)) = false := by decide) (he : starEach (e :: es) X.env = (false, eval e X.env) :: starEach es X.env := by rfl) (hpl : (backTo pos (starEach es X.env)).any (·.1) = false := by rfl) :
    PE X (.Call (.Name x p) (e :: es) [] pos) (tCall sp [] E t) := by
  refine ⟨fun pins s σ H Q I h => wpAny_Call_Name_kw (ld_glob I hg hm (PySem.W.callWith_K (h₀ := X.base) I.ok.mod.kin hk (thn (ha.run pos pins s σ H _ I h) fun us s1 z => ?_) he hpl) hdb)⟩
  obtain ⟨vs, H1, I1, rel, q⟩ := z
  rw [List.append_nil] at q
  refine ⟨I1.kIn, wpAny_call (codeAny_mono (F.go X.A X.stack s1 H1 ⟨us, []⟩ us vs Q E g hr I1.env0 ?_ rel q) fun r s2 z => ?_)⟩
  · have := hb s1 us I1.kIn (by rw [List.append_nil, ← rel.length]; exact F.ln _ _ _ _ q)
    rwa [List.append_nil] at this
  · rcases r with e | fl
    · exact hx pins σ H1 s1 e s2 I1 z
    · cases fl with
      | ret u => exact I1.after z
      | next => exact z.elim
      | brk => exact z.elim
      | cont => exact z.elim
end
/-! ### repr of plain data that is no dict -/
structure Shows (d : PyData) (L k : Nat) : Prop where
  sh : d.showable = true
  nd : d.hasDict = false
  dp : d.depth ≤ k
  ln : d.shown.length ≤ L
theorem Shows.mono {d : PyData} {L k M l : Nat} (h : Shows d L k) (h1 : L ≤ M) (h2 : k ≤ l) : Shows d M l := ⟨h.sh, h.nd, Nat.le_trans h.dp h2, Nat.le_trans h.ln h1⟩
theorem Shows.non {k : Nat} : Shows .none 4 k := ⟨rfl, rfl, Nat.zero_le _, by decide⟩
theorem Shows.bool {b : Bool} {k : Nat} : Shows (.bool b) 5 k := ⟨rfl, rfl, Nat.zero_le _, by cases b <;> decide⟩
theorem Shows.int {i : Int} {k : Nat} (h : i.natAbs < 2 ^ 1900) : Shows (.int i) 1921 k := by
  have hl : i.natAbs.log2 < 1920 := by
    by_cases h0 : i.natAbs = 0
    · rw [h0, Nat.log2_zero]
      decide
    · exact Nat.lt_of_lt_of_le ((Nat.log2_lt h0).mpr h) (by decide)
  refine ⟨?_, rfl, Nat.zero_le _, ?_⟩
  · simp only [PyData.showable, decide_eq_true hl]
  · show (Str.ofString (toString i)).length ≤ 1921
    rw [PySem.ofString_length]
    exact int_text_length_le (k := 1920) (by decide) hl
theorem shows_all {L k : Nat} : ∀ {ds : List PyData}, (∀ d ∈ ds, Shows d L k) → PyData.showableAll ds = true ∧ PyData.hasDictAll ds = false ∧ PyData.depthAll ds ≤ k ∧ ((PyData.shownAll ds).map (·.length)).sum ≤ L * ds.length ∧ (PyData.shownAll ds).length = ds.length
  | [], _ => ⟨rfl, rfl, Nat.zero_le _, Nat.zero_le _, rfl⟩
  | d :: ds, h => by
    obtain ⟨h1, h2, h3, h4, h5⟩ := shows_all (fun x m => h x (List.mem_cons_of_mem _ m))
    have h0 := h d (List.mem_cons_self ..)
    refine ⟨?_, ?_, ?_, ?_, ?_⟩
    · simp only [PyData.showableAll, h0.sh, h1, Bool.and_self]
    · simp only [PyData.hasDictAll, h0.nd, h2, Bool.or_self]
    · simp only [PyData.depthAll]
      exact Nat.max_le.mpr ⟨h0.dp, h3⟩
    · have := h0.ln
      simp only [PyData.shownAll, List.map_cons, List.sum_cons, List.length_cons]
      rw [Nat.mul_succ]
      omega
    · simp only [PyData.shownAll, List.length_cons, h5]
theorem Shows.list {ds : List PyData} {L k : Nat} (h : ∀ d ∈ ds, Shows d L k) : Shows (.list ds) ((L + 2) * ds.length + 3) (k + 1) := by
  obtain ⟨h1, h2, h3, h4, h5⟩ := shows_all h
  refine ⟨by simpa only [PyData.showable] using h1, by simpa only [PyData.hasDict] using h2, by simpa only [PyData.depth] using Nat.succ_le_succ h3, ?_⟩
  have := listText_len_le (PyData.shownAll ds)
  rw [h5] at this
  simp only [PyData.shown, Nat.add_mul]
  omega
theorem Shows.tup {ds : List PyData} {L k : Nat} (h : ∀ d ∈ ds, Shows d L k) : Shows (.tuple ds) ((L + 2) * ds.length + 3) (k + 1) := by
  obtain ⟨h1, h2, h3, h4, h5⟩ := shows_all h
  refine ⟨by simpa only [PyData.showable] using h1, by simpa only [PyData.hasDict] using h2, by simpa only [PyData.depth] using Nat.succ_le_succ h3, ?_⟩
  have := tupleText_len_le (PyData.shownAll ds)
  rw [h5] at this
  simp only [PyData.shown, Nat.add_mul]
  omega
def rReprD (K : PySem.W.Frag) : List V → Hp → VK → Prop := fun xs H Q => ∃ (a : Addr) (d : PyData) (L k : Nat), xs = [.ref a] ∧ Dp K H (.ref a) d ∧ Shows d L k ∧ L ≤ 16000000 ∧ k ≤ 60 ∧ Q (.str d.shown) H
theorem call_reprD {X : Cx} (g : NoG X.A) (hu : X.A.units + 64 < cLine) : CallR X (.builtin "repr") (rReprD X.K) := by
  intro pins s σ H xs us Q I r h
  obtain ⟨a, d, L, k, rfl, hd, S, hL, hk, q⟩ := h
  rw [Vals.ref1 r]
  obtain ⟨as, rd⟩ := Dp.reads I d _ _ hd rfl
  have h60 := S.dp
  exact repr_of_reads' rd S.sh (PyData.noDict_hsm S.nd) g (by omega) (fun _ _ e => e) (fun h' u tk hk => ⟨.str _, H, I.kept hk, ⟨_, rfl⟩, q⟩) (by
    have := S.ln
    rw [sizeLine_eq]
    omega)
/-! ### the head -/
theorem law_callG {P : Program} {w : World} {K : PySem.W.Frag} {mg mb : Str → Option Value} {k : Nat} {fa a : Addr} {fd : FuncData} {x : Str} {sp : Sp} {s₁ : Shared} {vs : List Value} {ns : List Int}
    (KX : K.In s₁.heap) (hns : s₁.heap.Ns mainGlobals mg) (hb : s₁.heap.Ns builtinsNs mb) (hbb : ∀ x : Str, x ≠ "__name__" → mb x = bootBuiltins x) (hlim : s₁.heap.NoLimit) (hg : s₁.gens = #[])
    (ha : s₁.heap.get? a = some { cls := .type "list", data := .seq vs.toArray }) (hi : IntsAre vs ns) (hl : ns.length ≤ sizeLine) (hr : Room k callerA)
    (F : ∀ base : Heap, K.In base → base.Ns mainGlobals mg → FnG P w K mg base CX0 k fa fd [x] sp) (hbind : ∀ (s : Shared) (u : Value), BindsTo s fd ⟨[u], []⟩ [(x, u)])
    (hsp : ∀ H : Hp, Only H → SqL K H a (ns.map V.int) → sp [.ref a] H (fun v _ => v = .bl true) fun _ _ _ => False) :
    codeAny (model P w) callerA (.call (.ref fa) ⟨[.ref a], []⟩) (fun r s' => r = .ok (.ret (.bool true)) ∧ OldK s₁.heap s'.heap ∧ s'.os = s₁.os ∧ AllBare s'.gens) s₁ := by
  have rv := vals_ints hi
  have from_ : ∀ H : Hp, Only H → SqL K H a (ns.map V.int) → HOk P w H s₁.heap → (∀ b, H b ≠ none → b = a) → (H a ≠ none → K.lookup a = none) →
      codeAny (model P w) callerA (.call (.ref fa) ⟨[.ref a], []⟩) (fun r s' => r = .ok (.ret (.bool true)) ∧ OldK s₁.heap s'.heap ∧ s'.os = s₁.os ∧ AllBare s'.gens) s₁ := by
    intro H only seq ok alone noK
    -- what else lies in the heap, lies in the base
    have keepB : ∀ {b : Addr} {o : Obj}, s₁.heap.get? b = some o → (b = a → H a = none) → (hidT s₁.heap H).get? b = some o := fun {b o} e n => hidT_get e (by
      cases q : H b with
      | none => rfl
      | some u =>
        have ea : b = a := alone b (by rw [q]; simp)
        rw [ea, n ea] at q
        cases q)
    have noDict : ∀ {b : Addr} {o : Obj} {es : Array DictEntry} {ep : Nat}, s₁.heap.get? b = some o → o.data = .dict es ep → b ≠ a := fun {b o es ep} e d ea => by
      rw [ea, ha] at e
      cases e
      cases (show Data.seq vs.toArray _ = Data.dict es ep from d)
    have nsB : ∀ {b : Addr} {m : Str → Option Value}, s₁.heap.Ns b m → (hidT s₁.heap H).Ns b m := fun ⟨o, es, ep, e, d, r⟩ => ⟨o, es, ep, keepB e fun ea => absurd ea (noDict e d), d, r⟩
    have KB : K.In (hidT s₁.heap H) := fun b o e => keepB (KX b o e) fun ea => by
      cases q : H a with
      | none => rfl
      | some u =>
        have n := noK (by rw [q]; simp)
        rw [ea, n] at e
        cases e
    have md : Mod K mg (hidT s₁.heap H) := by
      obtain ⟨mc, h1, h2⟩ := hlim
      exact ⟨KB, nsB hns, ⟨mb, nsB hb, hbb⟩, mc, nsB h1, h2⟩
    have en : Env0 P w K mg (hidT s₁.heap H) callerA [] s₁ H := ⟨rfl, md, fun b o e => of_hidT e, Nat.le_of_eq (hidT_size _ _), trivial, fun b z => (List.not_mem_nil z).elim, ok, .of_eq hg⟩
    refine codeAny_mono ((F _ KB (nsB hns)).go callerA [] s₁ H ⟨[.ref a], []⟩ [.ref a] [.ref a] _ _ rfl hr en (hbind s₁ (.ref a)) (.cons rfl .nil) (hsp H only seq)) fun r s2 z => ?_
    rcases r with e | fl
    · exact z.elim
    cases fl with
    | next => exact z.elim
    | brk => exact z.elim
    | cont => exact z.elim
    | ret u =>
      obtain ⟨v, H2, os, bare, un, ok2, ru, ev⟩ := z
      rw [show v = V.bl true from ev] at ru
      cases (show u = Value.bool true from ru)
      refine ⟨rfl, OldK.of_keep fun b o e => ?_, os, bare⟩
      rcases only b with z | ⟨ob, xs, z⟩
      · exact un.keep b o e z List.not_mem_nil List.not_mem_nil
      · have e1 := (ok b _ z).1
        rw [e] at e1
        cases e1
        exact (ok2 b _ (un.frzs b _ _ z)).1
  cases hk : K.lookup a with
  | some o =>
    have e := KX a o hk
    rw [ha] at e
    cases e
    exact from_ (fun _ => none) (fun _ => .inl rfl) (.inr ⟨_, vs.toArray, _, hk, rfl, rfl, rfl, by rw [List.size_toArray, hi.length]; exact hl, by simpa using rv⟩) (fun b u z => by cases (show (none : Option HO) = some u from z)) (fun b z => absurd rfl z) fun z => absurd rfl z
  | none =>
    have one : ∀ b u, (fun b => if b = a then some (HO.frz { cls := .type "list", data := .seq vs.toArray } (.lst (ns.map V.int))) else none : Hp) b = some u → b = a ∧ u = .frz { cls := .type "list", data := .seq vs.toArray } (.lst (ns.map V.int)) := fun b u z => by
      by_cases eb : b = a
      · exact ⟨eb, (Option.some.inj ((if_pos eb).symm.trans z)).symm⟩
      · cases (if_neg eb).symm.trans z
    refine from_ (fun b => if b = a then some (.frz { cls := .type "list", data := .seq vs.toArray } (.lst (ns.map V.int))) else none) (fun b => ?_) (.inl (.inr ⟨_, if_pos rfl⟩)) (fun b u z => ?_) (fun b z => ?_) fun _ => hk
    · by_cases eb : b = a
      · exact .inr ⟨_, _, if_pos eb⟩
      · exact .inl (if_neg eb)
    · obtain ⟨rfl, rfl⟩ := one b u z
      exact ⟨ha, by rw [List.length_map]; exact hl, vs, _, rv, ha⟩
    · by_cases eb : b = a
      · exact eb
      · exact absurd (if_neg eb) z
theorem walk_G {l : PySem.W.OpenLaw} {n k : Nat} {q : Program} {loose : List Str} {XP : (Str → Option Value) → Heap → Prop} {YP : World → Heap → Prop} {d : DefRec} {K : Params → PySem.W.Frag} {sp : World → Sp} {x : Str}
    (hn : l.most = some n) (hn2 : n ≤ sizeLine) (hdf : d.params.defaults = []) (hr : Room k callerA) (hY : ∀ (w : World) (h : Heap), YP w h → (K w.params).In h)
    (F : ∀ (w : World) (mg : Str → Option Value) (fa : Addr) (h : Heap), (K w.params).In h → h.Ns mainGlobals mg → mg d.name = some (.ref fa) →
      ∃ fd : FuncData, (∀ (s : Shared) (u : Value), BindsTo s fd ⟨[u], []⟩ [(x, u)]) ∧ ∀ base : Heap, (K w.params).In base → base.Ns mainGlobals mg → FnG l.prog w (K w.params) mg base CX0 k fa fd [x] (sp w))
    (hsp : ∀ (w : World) (H : Hp) (a : Addr) (ns : List Int), ns.length ≤ n → Only H → SqL (K w.params) H a (ns.map V.int) → sp w [.ref a] H (fun v _ => v = .bl true) fun _ _ _ => False) :
    PySem.W.WalkO q loose XP YP l.row.toRowW d [] (fun f vs => PySem.call f vs) :=
  Att.attach_call hn hdf fun w s₀ s₁ mg mb fa o pm cd doc a vs ns G Y ho hd hcd hmg hobj hints hlen hg => by
    obtain ⟨fd, hb, hF⟩ := F w mg fa _ (hY w _ Y) G.T.g hmg
    exact law_callG (hY w _ Y) G.T.g G.T.b G.T.builtins G.T.nolimit hg hobj hints (Nat.le_trans hlen hn2) hr hF hb fun H hO hS => hsp w H a ns hlen hO hS
end WG
namespace WX
open PySem PySem.Spec PyProof.Rows L2

/-! ### class E(..ValueError): def __init__(self, v): super().__init__(); self.fld = v -/
def spExI (C : Addr) (fld : Str) : Sp := fun vs H Q _ => ∃ (a : Addr) (y : V), vs = [.ref a, y] ∧ H a = some (exo a C none) ∧ ∀ dx, H dx = none → dx ≠ a → Q .non (upd (upd H dx (exd dx [(fld, y)])) a (exo a C (some dx)))
abbrev scI (vn : Str) : Scope := { kind := .function, names := [("self", .local), (vn, .local)], isGenerator := false, isCoroutine := false }
theorem fs_scI {vn : Str} (h : ("self" : Str) ≠ vn) : FnScope ["self", vn] ["self", vn] (scI vn) := by
  have e : (("self" : Str) == vn) = false := beq_eq_false_iff_ne.mpr h
  have e2 : (vn == ("self" : Str)) = false := beq_eq_false_iff_ne.mpr (Ne.symm h)
  refine ⟨rfl, rfl, rfl, by simp [h], rfl, fun x hx => ?_, fun y hy => ?_⟩
  · rcases List.mem_cons.mp hx with rfl | hx
    · exact .inl (by simp [List.lookup])
    · rw [List.mem_singleton.mp hx]
      exact .inl (by simp [List.lookup, e2])
  · rcases List.mem_cons.mp hy with rfl | hy
    · exact fun z => nomatch z
    · rw [List.mem_singleton.mp hy]
      exact fun z => nomatch z
theorem binds_fn {vn : Str} (h : ("self" : Str) ≠ vn) {q : Str} {L f : Addr} {cd a u : Value} : (fun x => (List.zip [("self" : Str), vn] [a, u]).reverse.lookup x) = bindL (envOfC q (scI vn) L f cd).kindOf (List.zip [("self" : Str), vn] [a, u]) fun _ => none := by
  have e2 : (vn == ("self" : Str)) = false := beq_eq_false_iff_ne.mpr (Ne.symm h)
  have k1 : (envOfC q (scI vn) L f cd).kindOf "self" = some .local := by
    show List.lookup ("self" : Str) ([("self", .local), (vn, .local)] : List (Str × NameKind)) = some .local
    simp [List.lookup]
  have k2 : (envOfC q (scI vn) L f cd).kindOf vn = some .local := by
    show List.lookup vn ([("self", .local), (vn, .local)] : List (Str × NameKind)) = some .local
    simp [List.lookup, e2]
  funext y
  show List.lookup y ([(vn, u), ("self", a)] : List (Str × Value)) = _
  simp only [List.zip_cons_cons, List.zip_nil_right, bindL, k1, k2, if_true]
  by_cases h1 : y = vn
  · subst h1
    simp [List.lookup]
  · by_cases h2 : y = "self"
    · subst h2
      have e3 : (("self" : Str) == vn) = false := beq_eq_false_iff_ne.mpr h
      simp [List.lookup, e3, h]
    · have e3 : (y == vn) = false := beq_eq_false_iff_ne.mpr h1
      have e4 : (y == ("self" : Str)) = false := beq_eq_false_iff_ne.mpr h2
      simp [List.lookup, e3, e4, h1, h2]
section
variable {P : Program} {w : World} {K : PySem.W.Frag} {mg : Str → Option Value} {base : Heap}
theorem ok_superInit {nm qual vn fld : Str} {pr : Arguments} {sc : Scope} {dV kV doc pm ct oc ccl cl : Value} {an od cdd cld : Option Addr} {osl ccs csl : Array (Option Value)} {cvs : Array Value} {f cc cda C : Addr} {ar : Arg} {file : Str} {tf : Tok} {p0 p1 p2 p3 p4 p5 p6 p7 p8 : Pos}
    (lk : K.lookup f = some ⟨oc, od, .func (PySem.W.ksFn nm qual pr [.Expr (.Call (.Attribute (.Call (.Name "super" p0) [] [] p1) "__init__" p2) [] [] p3) p4, .Assign [.Attribute (.Name "self" p5) fld p6] (.Name vn p7) p8] sc dV kV doc pm an (.ref cda) ct cc), osl⟩)
    (hcd : PySem.W.codeIn K (.ref cda) qual = true) (hcode : K.lookup cda = some ⟨ccl, cdd, .fields cvs, ccs⟩) (hvs : cvs[2]? = some (.str file tf)) (hfile : ((P.main.file : Str) == file) = true)
    (hcell : K.lookup cc = some ⟨cl, cld, .cell (some (.ref C)), csl⟩) (T : OexC K C) (hsub : PySem.W.mroIn K C (.ref C) = some true) (hB : PySem.W.subIn K (.ref C) (.type "ValueError") = some true)
    (hsi : PySem.W.ks_superIn K C C "__init__" = some (some (.builtin "ValueError.__init__"))) (hany : PySem.W.nsIn K PySem.cStatics "thirdparty.any" = some none) (hno : PySem.W.findIn K (.ref C) fld = some none)
    (hsup : mg "super" = none) (htop : (P.main.scope.names.lookup ("super" : Str)).isSome = false) (hne : ("self" : Str) ≠ vn)
    (har : (pr.posonlyargs ++ pr.args).head? = some ar) (hself : ar.arg = "self")
    (k1 : sc.names.lookup ("super" : Str) = some .globalImplicit) (k2 : sc.names.lookup ("__class__" : Str) = some .free) (k3 : sc.names.lookup ("self" : Str) = some .local) (k4 : sc.names.lookup vn = some .local)
    (k5 : ∀ x ∈ sc.names, x.2 ≠ .cell) (k6 : sc.kind = .function) (k7 : sc.isCoroutine = false) (k8 : sc.isGenerator = false) (hdv : (vn == ("__debug__" : Str)) = false) {pl : Sem Bool}
    (he : ∀ env : Env, eval (.Call (.Attribute (.Call (.Name "super" p0) [] [] p1) "__init__" p2) [] [] p3) env = (do
      let ov ← attributeBase (.Call (.Name "super" p0) [] [] p1) "__init__" env (eval (.Call (.Name "super" p0) [] [] p1) env)
      standAt p2.atName
      let (f, first) ← holding [ov] (getMethod ov "__init__" pl)
      callWith p3 f first (backTo p3 (starEach [] env)) []))
    (hi : ∀ L, interactive (PySem.W.ksEnv qual sc L f (.ref cda) cc) = false) (hs0 : ∀ env : Env, swapsWith (.Call (.Attribute (.Call (.Name "super" p0) [] [] p1) "__init__" p2) [] [] p3) none p4.line env = pure false)
    (hs1 : ∀ env : Env, swapsWith (.Name vn p7) (some (.Attribute (.Name "self" p5) fld p6)) p8.line env = pure false) :
    FnOk P w K mg base CX0 1 f (PySem.W.ksFn nm qual pr [.Expr (.Call (.Attribute (.Call (.Name "super" p0) [] [] p1) "__init__" p2) [] [] p3) p4, .Assign [.Attribute (.Name "self" p5) fld p6] (.Name vn p7) p8] sc dV kV doc pm an (.ref cda) ct cc) ["self", vn] (spExI C fld) := by
  refine ⟨fun vs H Q E h => ?_, fun A outer s H args us vs Q E hr e0 hb r hsp => ?_⟩
  · obtain ⟨a, y, rfl, _⟩ := h
    rfl
  obtain ⟨a, y, rfl, ea, k⟩ := hsp
  obtain ⟨u, rfl, ru⟩ : ∃ u, us = [.ref a, u] ∧ RelV y u := by
    cases r with
    | cons r1 r2 =>
      cases r2 with
      | cons r3 r4 =>
        cases r4
        cases (show _ = Value.ref a from r1)
        exact ⟨_, rfl, r3⟩
  have hin : ∀ b o, base.get? b = some o → s.heap.get? b = some o := fun b o e => (e0.bs b o e).1
  have KX : K.In s.heap := e0.mod.kin.keeps hin
  have hloc : ∀ z ∈ List.zip [("self" : Str), vn] [Value.ref a, u], sc.names.lookup z.1 = some .local := fun z hz => by
    rcases List.mem_cons.mp (show z ∈ ([("self", Value.ref a), (vn, u)] : List (Str × Value)) from hz) with rfl | hz
    · exact k3
    · rw [List.mem_singleton.mp hz]
      exact k4
  refine PySem.ks_codeAny_call_defAt (fd := PySem.W.ksFn nm qual pr [.Expr (.Call (.Attribute (.Call (.Name "super" p0) [] [] p1) "__init__" p2) [] [] p3) p4, .Assign [.Attribute (.Name "self" p5) fld p6] (.Name vn p7) p8] sc dV kV doc pm an (.ref cda) ct cc) hr.depth (KX _ _ lk) rfl (e0.mod.nolimit.keeps hin) (PySem.W.codeRec_of KX hcd) rfl hb k5 hloc (fun h1 hns hk => ?_) k7 k8 k6
  obtain ⟨hp, g, d, t, os⟩ := s
  have I1 : Inv (cxOf CX0 P w K mg base ["self", vn] qual (scI vn) f (.ref cda) A outer ⟨hp, g, d, t, os⟩ H E) [] (start ["self", vn] [.ref a, y]) H ⟨h1, g, d, t + 2, os⟩ :=
    inv_start (us := [.ref a, u]) (fs_scI hne) hr.hd e0 rfl r ⟨⟨⟨_, _, rfl⟩, binds_fn hne ▸ hns, hk, Nat.le_refl _⟩, fun n c e => (by cases e), List.Pairwise.nil, fun n c e => (by cases e)⟩
  have hmg := e0.mod.glob.keeps hin
  obtain ⟨mb, hmb, hmb2⟩ := e0.mod.blt
  have hmb := hmb.keeps hin
  have up : ∀ {o : Obj} {b : Addr}, hp.get? b = some o → h1.get? b = some o := fun {o b} e => hk b o e
  obtain ⟨nm', q', N', bs', bm', sn', sub', ab', col', dd', c0, c1, c2, c3, c5, hC, hbm⟩ := T.cls
  obtain ⟨t1, hea⟩ := exo_at e0.hok ea
  have hat : h1.get? a = some (PySem.HandSPX.excO C t1) := up hea
  have hCat := I1.kIn _ _ hC
  have hcl : PySem.W.clsIn K C = some { name := nm', bases := bs', mro := .ref C :: bm', ns := N', qualname := q', hasDict := true, slotNames := sn', subclasses := sub', abstract := ab', collection := col', hasDel := false } := by unfold PySem.W.clsIn; rw [hC] <;> rfl
  have hIa : PySem.W.InstAt h1 a (PySem.HandSPX.excO C t1) C none := ⟨hat, rfl, rfl, trivial⟩
  refine PySem.ks_wpAt_execs_cons (PySem.ks_wpAt_Expr_any (PySem.ks_wpAt_MethodCall (pl := pl) (PySem.ks_wpAt_super_base (fd := PySem.W.ksFn nm qual pr [.Expr (.Call (.Attribute (.Call (.Name "super" p0) [] [] p1) "__init__" p2) [] [] p3) p4, .Assign [.Attribute (.Name "self" p5) fld p6] (.Name vn p7) p8] sc dV kV doc pm an (.ref cda) ct cc) k1 k2 (by decide) rfl (I1.kIn _ _ lk) rfl har rfl (I1.kIn _ _ hcode) rfl hvs hfile htop ?_) (he _)) (hi _) (hs0 _))
  refine PySem.W.ks_loadName_global k6 k1 (Calls.loadGlobal_builtin (hmg.keeps hk) hsup (hmb.keeps hk) ((hmb2 _ (by decide +kernel)).trans (by decide +kernel)) ⟨rfl, ?_⟩)
  refine wpAny_loadName_free k6 k2 rfl ⟨_, I1.kIn _ _ hcell, rfl⟩ ?_
  have l1 : (fun x => (List.zip [("self" : Str), vn] [Value.ref a, u]).reverse.lookup x) "self" = some (.ref a) := by
    have e3 : (("self" : Str) == vn) = false := beq_eq_false_iff_ne.mpr hne
    show List.lookup ("self" : Str) ([(vn, u), ("self", .ref a)] : List (Str × Value)) = _
    simp [List.lookup, e3]
  have l2 : (fun x => (List.zip [("self" : Str), vn] [Value.ref a, u]).reverse.lookup x) vn = some u := by
    show List.lookup vn ([(vn, u), ("self", .ref a)] : List (Str × Value)) = _
    simp [List.lookup]
  refine wpAny_loadName_local k6 (by rw [hself]; exact k3) hns (v := .ref a) (by rw [hself]; exact l1) ?_
  refine PySem.ks_wpAny_isType_cls hCat rfl ⟨rfl, ?_⟩
  refine PySem.ks_wpAny_call_super hCat rfl hat rfl (fun c z => nomatch z) (PySem.W.looks_mroIn I1.kIn hsub) (fun h2 e2 kk2 => ?_)
  have I2 : Inv _ [] _ H ⟨h2, g, d, t + 2, os⟩ := I1.kept kk2
  have hat2 := kk2 _ _ hat
  have hIa2 : PySem.W.InstAt h2 a (PySem.HandSPX.excO C t1) C none := ⟨hat2, rfl, rfl, trivial⟩
  unfold PySem.W.ks_superIn at hsi
  rw [hcl] at hsi
  refine PySem.W.kxs_getMethod PySem.W.kxs_ValueError e2 (PySem.W.looks_opaque I2.kIn hany) (l₀ := .ref C :: bm') ?_ rfl I2.kIn hsi (hIa2.type.andThen (PySem.W.looks_subIn I2.kIn hB)) (PySem.W.ks_ne I2.kIn hIa2 hcl) (by decide) ?_
  · exact fun A Q E s k q => wpAny_bind ((PySem.W.looks_clsIn I2.kIn hcl) A _ E s k (wpAny_pure q))
  have hmw : (h2.push (PySem.W.kxs_mw "ValueError.__init__" a)).get? h2.objs.size = some (PySem.W.kxs_mw "ValueError.__init__" a) := Heap.get?_push_size _ rfl
  refine PySem.W.kxs_callWith (i := "ValueError.__init__") (x := a) rfl (evalArgs_empty ⟨hmw, ?_⟩)
  have kk3 : ∀ b o, h2.get? b = some o → (h2.push (PySem.W.kxs_mw "ValueError.__init__" a)).get? b = some o := fun b o e => Heap.get?_push_of_some _ e
  generalize hq3 : h2.push (PySem.W.kxs_mw "ValueError.__init__" a) = h3 at *
  have hat3 := kk3 _ _ hat2
  have I3 : Inv (cxOf CX0 P w K mg base ["self", vn] qual (scI vn) f (.ref cda) A outer ⟨hp, g, d, t, os⟩ H E) [] (start ["self", vn] [.ref a, y]) H ⟨h3, g, d, t + 2 + 1, os⟩ := I2.kept kk3
  -- the wrapper is called: the built-in __init__
  refine wpAny_call (codeAny_of_tree (show wpAny _ _ (callAny (.ref h2.objs.size) ⟨[], []⟩) _ _ _ from ?_))
  simp only [callAny]
  refine wpAny_bind (wpAny_load hmw ?_)
  have t1' : (Value.type "method-wrapper" == Value.type "method" || Value.type "method-wrapper" == Value.type "builtin_function_or_method" || Value.type "method-wrapper" == Value.type "method-wrapper") = true := by decide
  simp only [PySem.W.kxs_mw, t1', if_true]
  refine PySem.W.KFB.if_so (by decide) (wpAny_bind (PySem.W.check_bound_init F.excBase_ValueError.toExcCallFacts (I3.kIn _ _ hC) hat3 rfl (wpAny_bind (wpAny_pure (wpAny_pure ?_)))))
  refine ⟨plainId_quiet F.excBase_ValueError.init.plain _, codeAny_builtin F.excBase_ValueError.initEntry ?_⟩
  refine PySem.W.exc_init_tree (cls := .ref C) (t0 := t1) (dv := none) (c2 := .none) (c3 := .none) (b4 := .bool false) hat3 (by decide) fun h4 kk4 hat4 _ => ?_
  have J := I3.write (t' := t + 2 + 1) (x := a) (e := a) (o := exo a C none) (by rw [ea]; exact True.intro) (.inl rfl) kk4 ⟨_, hat4⟩ (exo_ok hat4)
  have eu : upd H a (exo a C none) = H := by
    funext b
    by_cases eb : b = a
    · rw [eb, upd_same, ea]
    · rw [upd_ne eb]
  rw [eu] at J
  have hLa : hp.objs.size ≠ a := Nat.ne_of_gt (Heap.lt_size hea)
  have hns4 : h4.Ns hp.objs.size (fun x => (List.zip [("self" : Str), vn] [Value.ref a, u]).reverse.lookup x) := by
    obtain ⟨o, es, ep, e, dd, rr⟩ := hns
    exact ⟨o, es, ep, kk4 _ _ hLa (kk3 _ _ (kk2 _ _ e)), dd, rr⟩
  refine PySem.ks_wpAt_execs_cons (wpAt_of_wpAny (plainObj_wpAny_Assign_Attribute (wpAny_Name (wpAny_loadName_local k6 k4 hns4 l2 ?_) hdv) (hs1 _)))
  refine wpAny_Name (wpAny_loadName_local k6 k3 hns4 l1 ?_) (by decide)
  refine ost_new T J ea hno ru fun dx s2 nd ne J2 => ?_
  refine wpAt_of_wpAny (wpAny_execs_nil ?_)
  exact ⟨.non, _, J2.os, J2.bare, J2.base, J2.hok, rfl, k dx nd ne⟩
end
end WX
namespace WE
open PySem PySem.Spec PyProof.Rows L2

/-! ### a caught exception that is kept: try: body, except X as n: m = n -/
/-- at a: an exception of the class cls, its dict at d -/
def Cau (cls : Value) (d : Option Addr) (a : Addr) : HO := .ext fun h => ∃ (oe : Obj) (vs : Array Value), h.get? a = some oe ∧ Zc cls d oe ∧ oe.data = .fields vs
theorem cau_ok {P : Program} {w : World} {H : Hp} {h : Heap} {a : Addr} {cls : Value} {d : Option Addr} {oe : Obj} (e : h.get? a = some oe) (z : Zc cls d oe) (hd : ∃ vs, oe.data = .fields vs) : ObjOk P w H h a (Cau cls d a) := by
  obtain ⟨vs, hd⟩ := hd
  exact ⟨⟨oe, vs, e, z, hd⟩, ⟨oe, e⟩, fun _ _ ⟨o, v, q, r⟩ k => ⟨o, v, k o q, r⟩⟩
theorem cau_at {P : Program} {w : World} {H : Hp} {h : Heap} {a : Addr} {cls : Value} {d : Option Addr} (hok : HOk P w H h) (he : H a = some (Cau cls d a)) : ∃ (oe : Obj) (vs : Array Value), h.get? a = some oe ∧ Zc cls d oe ∧ oe.data = .fields vs := by
  have x : ObjOk P w H h a (.ext fun h => ∃ (oe : Obj) (vs : Array Value), h.get? a = some oe ∧ Zc cls d oe ∧ oe.data = .fields vs) := hok a _ he
  exact x.1
section
variable {X : Cx} {pins : List (Addr × Obj)} {σ : L2.St} {H : Hp} {s : Shared}
/-- an object that was made behind the entry is tracked from here on -/
theorem track {a : Addr} {o : HO} (I : Inv X pins σ H s) (na : H a = none) (n0 : X.s_0.heap.get? a = none) (nL : a ≠ X.env.locals) (np : ∀ p ∈ X.pn ++ pins, p.1 ≠ a) (nc : ∀ v, ¬ s.heap.IsCell a v) (new : ObjOk X.prog X.w (upd H a o) s.heap a o) : Inv X pins σ (upd H a o) s := by
  have ne0 : ∀ {b : Addr} {u : Obj}, X.s_0.heap.get? b = some u → b ≠ a := fun {b u} e z => by
    rw [z, n0] at e
    cases e
  refine ⟨I.ok, I.os, I.bare, ⟨I.base.keep, I.base.slot, fun b u e n hx => ?_, I.base.there, fun b xs e => ?_, fun b u v e => ?_, fun b ps e => ?_⟩, I.loc, I.cell, ?_, fun x c e => ?_, fun p hp => ?_, I.hok.laidN (fun _ _ e => e) na new, I.len⟩
  · rw [upd_ne (ne0 e)]
    exact I.base.free b u e n hx
  · have q := I.base.tups b xs e
    rw [upd_ne (ne_of_none q na)]
    exact q
  · have q := I.base.frzs b u v e
    rw [upd_ne (ne_of_none q na)]
    exact q
  · obtain ⟨m, q⟩ := I.base.tbls b ps e
    exact ⟨m, by rw [upd_ne (ne_of_none q na)]; exact q⟩
  · rw [upd_ne (Ne.symm nL)]
    exact I.free
  · have hc : c ≠ a := fun z => by
      obtain ⟨v, q⟩ := I.cell x c e
      rw [z] at q
      exact nc v q
    rw [upd_ne hc]
    exact I.freeC x c e
  · obtain ⟨e, n, r⟩ := I.pin p hp
    exact ⟨e, by rw [upd_ne (np p hp)]; exact n, r⟩
end
/-- what the clause wishes: slot i is n's -/
def wKeep (K : PySem.W.Frag) (c : Value) (i : Nat) (ts : TS) (Wout : WX) (D : Ends) : WX := fun cls d σ H =>
  ∃ b, PySem.W.exmOne K cls c = some b ∧
    (b = true → ∀ a, H a = none → ts { nx := fun σ1 H1 => D.nx (σ1.set i none) (upd H1 a (Cau cls d a)), rt := fun _ _ => False, bk := fun _ _ => False, ct := fun _ _ => False } (σ.set i (some (.ref a))) H) ∧ (b = false → Wout cls d σ H)
section
variable {X : Cx} {x n : Str} {c : Value} {i : Nat} {body suite : List Stmt} {b₀ : Stmt} {np pos pos' : Pos} {tb : WX → TS} {ts : TS} {Wout : WX}
theorem ps_try_keep (hs : X.stack = X.env :: X.outer) (hf : X.env.frame = some X.env.locals) (hex : X.ex = []) (hN : X.N.Nodup) (hi : X.N[i]? = some n) (hln : X.env.kindOf n = some .local) (hc : Names X x c) (tk : Takes X Wout)
    (hb : ∀ (W : WX) (pn : List (Addr × Obj)) (xe : Value → Shared → Prop), Takes (X.tr pn xe) W → PassesOwn (model X.prog X.w) X.A X.env xe → PSs (X.tr pn xe) body (tb W))
    (hsu : ∀ (a : Addr) (oe : Obj) (pn : List (Addr × Obj)), PSs (X.suite a ((a, oe) :: pn)) (b₀ :: suite) ts) :
    PS X (.Try body [.ExceptHandler (some (.Name x np)) (some n) (b₀ :: suite) pos'] [] [] pos) (fun D σ H => tb (wKeep X.K c i ts Wout D) D σ H) := by
  refine ⟨fun pins s σ H D I h => ?_⟩
  have ok := I.ok
  have frA : X.A.frames = some (X.env :: X.outer) := by rw [ok.frames, hs]
  have lcl : Loc X.env.scope n := .inl hln
  refine wpAny_Try_except ?_
  refine wpAny_mono ((hb (wKeep X.K c i ts Wout D) (X.pn ++ pins) (fun er s₁ => wpAny (model X.prog X.w) X.A (noteFrame er X.env) (fun _ s₂ => wpAny (model X.prog X.w) X.A (setFlight er none) (fun _ s₃ =>
    wpAny (model X.prog X.w) X.A (handleBy er X.env [.ExceptHandler (some (.Name x np)) (some n) (b₀ :: suite) pos']) (SP X pins D) X.xe s₃) X.xe s₂) X.xe s₁) (fun u s2 air => ?_) PassesOwn.looking).run [] s σ H D (I.toTry _) h) (fun f s1 hsp => ?_) (fun e s1 he => he)
  · obtain ⟨a, B, sI, pins2, σ2, H2, cls, d, rfl, J0, nb, up, sky, na, os, ag, b, hb1, hyes, hno⟩ := air
    have J : Inv X pins σ2 H2 sI := J0.ofTry ok
    have sky2 : Sky B (X.env :: X.outer) a (Zc cls d) X.env.locals s2.heap := by rw [← hs]; exact sky
    show wpAny (model X.prog X.w) X.A (noteFrame (.ref a) X.env) _ _ _
    refine Sky.land Zc.steady frA hf sky2 fun h3 fl3 up3 => ?_
    have J3 : Inv X pins σ2 H2 { s2 with heap := h3 } := J.landed nb fl3.1 (up.trans up3) os ag
    obtain ⟨oe3, vs3, he3, hz3, hd3⟩ := fl3.there
    have frames_no : ∀ {h : Heap} {o : Obj} {vs : Array Value}, h.FunFrames B (X.env :: X.outer) → h.get? a = some o → o.data = .fields vs → a ∉ frs (X.env :: X.outer) := fun {h o vs} ff e dd hm => by
      obtain ⟨_, o', e', hnf⟩ := ff.mem hm
      rw [e] at e'
      cases e'
      exact hnf _ dd
    have nfr := frames_no fl3.2.2.1 he3 hd3
    have nL : a ≠ X.env.locals := fun z => nfr (List.mem_filterMap.mpr ⟨X.env, List.mem_cons_self, by rw [hf, z]⟩)
    have nF : a ∉ X.fs := fun hm => by
      obtain ⟨e, he, q⟩ := List.mem_filterMap.mp hm
      exact nfr (List.mem_filterMap.mpr ⟨e, List.mem_cons_of_mem _ he, q⟩)
    -- the exception is new
    have nI : sI.heap.get? a = none := by
      cases q : sI.heap.get? a with
      | none => rfl
      | some o =>
        have z := nb a o q (by rw [hs]; exact nfr)
        rw [fl3.2.1] at z
        cases z
    have n0 : X.s_0.heap.get? a = none := by
      cases q : X.s_0.heap.get? a with
      | none => rfl
      | some o =>
        obtain ⟨o', z⟩ := J.base.there a o q (by rw [hex]; exact List.not_mem_nil)
        rw [nI] at z
        cases z
    have npn : ∀ p ∈ X.pn ++ pins, p.1 ≠ a := fun p hp z => by
      have q := (J.pin p hp).1
      rw [z, nI] at q
      cases q
    have S3 := J3.suite he3 hd3 na nL nF
    refine wpAny_handleBy_cons (codeAny_handlers_test ?_) (by intro q; cases q)
    have LT : PySem.W.Looks (model X.prog X.w) h3 (typeOf (.ref a)) cls := fun A Q E s k q => wpAny_typeOf_ref (k _ _ he3) (by rw [hz3.1]; exact q)
    have LM := PySem.W.exm_one (M := model X.prog X.w) (J3.kIn) LT hb1
    have named : ∀ {Q : Value → Shared → Prop} {E : Value → Shared → Prop}, Q c { s2 with heap := h3 } → wpAny (model X.prog X.w) (X.A.mark (some (.ref a))) (eval (.Name x np) X.env) Q E { s2 with heap := h3 } := fun {Q E} q => by
      obtain ⟨hg, hdbg, hm | ⟨hm, hv, hnn⟩⟩ := hc
      · exact ld_glob (X := X.suite a ((a, oe3) :: (X.pn ++ pins))) S3 hg hm q hdbg
      · exact ld_blt (X := X.suite a ((a, oe3) :: (X.pn ++ pins))) S3 hg hm hv q hnn hdbg
    refine named (LM.here ?_)
    cases b with
    | true =>
      refine codeAny_handlers_suite_as ?_
      refine HandSPX.lands_againZ fl3 fun h4 fl4 up4 => ?_
      have J4 : Inv X pins σ2 H2 { s2 with heap := h4 } := J.landed nb fl4.1 ((up.trans up3).trans up4) os ag
      obtain ⟨oe4, vs4, he4, hz4, hd4⟩ := fl4.there
      have S4 := J4.suite he4 hd4 na nL nF
      refine store_ok (X := X.suite a ((a, oe4) :: (X.pn ++ pins))) (v := .ref a) S4 hN hi lcl rfl (fun s5 S5 => ?_) (.inr hln)
      refine wpAny_mono ((hsu a oe4 (X.pn ++ pins)).run [] s5 _ H2 _ S5 (hyes rfl a na)) (fun f s6 hsp => ?_) (fun _ _ z => False.elim z)
      cases f with
      | next =>
        obtain ⟨σ6, H6, S6, q6⟩ := hsp
        obtain ⟨e6, n6, _⟩ := S6.pin (a, oe4) (List.mem_append_left _ List.mem_cons_self)
        have T6 : Inv X pins σ6 (upd H6 a (Cau cls d a)) s6 := track (S6.unsuite ok) n6 n0 nL npn (fun v z => by
          obtain ⟨o, e, dd⟩ := z
          rw [show s6.heap.get? a = some oe4 from e6] at e
          cases e
          rw [hd4] at dd
          cases dd) (cau_ok e6 hz4 ⟨_, hd4⟩)
        exact gone_ok T6 hN hi hln fun s7 J7 => ⟨_, _, J7, q6⟩
      | brk => exact (hsp.choose_spec.choose_spec.2 : False).elim
      | cont => exact (hsp.choose_spec.choose_spec.2 : False).elim
      | ret u => exact (hsp.choose_spec.choose_spec.choose_spec.2.2 : False).elim
    | false =>
      show wpAny _ X.A (handleBy (.ref a) X.env []) _ _ _
      refine wpAny_handleBy_nil ?_
      obtain ⟨k1, k2, k3, oe, vs, Tr, oT, tss, he, hz, hd, h1, hr⟩ := id fl3
      unfold PySem.passOn
      refine wpAny_bind (wpAny_field he hd h1 ?_)
      rw [if_neg (show ¬ ((Value.ref Tr == Value.none) = true) from by simp)]
      have on_ : wpAny (model X.prog X.w) X.A (setFlight (.ref a) X.env.frame) (fun _ s4 => wpAny (model X.prog X.w) X.A (throw (.ref a) : Sem Flow) (SP X pins D) X.xe s4) X.xe { s2 with heap := h3 } := by
        rw [hf]
        refine HandSPX.setFlight_upZ fl3 fun h4 hh4 up4 => wpAny_throw (tk _ _ ?_)
        exact ⟨a, B, sI, pins, σ2, H2, cls, d, rfl, J, nb, (up.trans up3).trans up4, .inr (.inr (by rw [hs]; exact hh4)), na, os, ag, hno rfl⟩
      first
        | exact wpAny_bind (wpAny_pure (wpAny_bind on_))
        | exact wpAny_bind on_
  · cases f with
    | next =>
      obtain ⟨σ6, H6, S6, q6⟩ := hsp
      exact wpAny_execs_nil ⟨σ6, H6, S6.ofTry ok, q6⟩
    | brk =>
      obtain ⟨σ6, H6, S6, q6⟩ := hsp
      exact ⟨σ6, H6, S6.ofTry ok, q6⟩
    | cont =>
      obtain ⟨σ6, H6, S6, q6⟩ := hsp
      exact ⟨σ6, H6, S6.ofTry ok, q6⟩
    | ret u =>
      obtain ⟨v6, σ6, H6, S6, r6, q6⟩ := hsp
      exact ⟨v6, σ6, H6, S6.ofTry ok, r6, q6⟩
end

/-! ### such an exception is looked at -/
/-- what the written part tells of its class -/
structure CauC (K : PySem.W.Frag) (C : Addr) : Prop where
  x : XfC K C
  cl : (PySem.W.clsIn K C).isSome = true
  ca : PySem.W.findIn K (.ref C) "__class__" = some (some (.builtin "object.__class__"))
  cn : PySem.W.specialIn K (.builtin "object.__class__") "__get__" = some (some (.builtin "getset_descriptor.__get__"))
  ct : PySem.W.takesIn K (.builtin "object.__class__") = some true
  cm : PySem.W.mroIn K C (.type "object") = some true
section
variable {X : Cx} {pins : List (Addr × Obj)} {σ : L2.St} {H : Hp} {s : Shared} {a C dd : Addr} {fs : List (Str × V)}
theorem cau_inst (I : Inv X pins σ H s) (e : H a = some (Cau (.ref C) (some dd) a)) (ed : H dd = some (.xd fs)) : ∃ (oe od : Obj) (mA : Str → Option Value), PySem.W.InstAt s.heap a oe C (some od) ∧ (∀ f, PySem.W.lookIn f od = some (mA f)) ∧ ∀ f, RelO (fs.lookup f) (mA f) := by
  obtain ⟨oe, vs, ha, hz, hd⟩ := cau_at I.hok e
  obtain ⟨mA, hns, hr⟩ := (show ObjOk X.prog X.w H s.heap dd (.xd fs) from I.hok dd _ ed)
  obtain ⟨od, ho, hl⟩ := lookIn_ns hns
  exact ⟨oe, od, mA, ⟨ha, hz.1, by unfold PySem.W.notCls; rw [hd] <;> rfl, by rw [hz.2]; exact ho⟩, hl, hr⟩
/-- isinstance(x, C) -/
def rIsC (K : PySem.W.Frag) : List V → Hp → VK → Prop := fun xs H Q => ∃ (a C dd : Addr) (fs : List (Str × V)) (c : V) (cv : Value) (b : Bool), xs = [.ref a, c] ∧ H a = some (Cau (.ref C) (some dd) a) ∧ H dd = some (.xd fs) ∧ CauC K C ∧ (∀ u, RelV c u → u = cv) ∧
  PySem.W.kitOne K (.ref C) cv = some b ∧ Q (.bl b) H
theorem call_isC : CallR X (.builtin "isinstance") (rIsC X.K) := by
  intro pins s σ H xs us Q I r h
  obtain ⟨a, C, dd, fs, c, cv, b, rfl, ea, ed, T, hc, hk, q⟩ := h
  obtain ⟨u, u2, rfl, r1, r2⟩ := vals2 r
  cases (show u = Value.ref a from r1)
  rw [hc u2 r2]
  obtain ⟨oe, od, mA, J, _, _⟩ := cau_inst I ea ed
  exact PySem.W.kia_one (PySem.W.kitx_exc T.cl T.x.ga T.x.gg T.x.exC T.ca T.cn T.ct T.cm) I.kIn J hk (fun z => nomatch z) fun tk => ⟨.bl b, H, I.tok _, rfl, q⟩
/-- isinstance(x, (C, D, ..)) -/
def rIsCT (K : PySem.W.Frag) : List V → Hp → VK → Prop := fun xs H Q => ∃ (a C dd t : Addr) (fs : List (Str × V)) (cs : List V) (cvs : List Value) (b : Bool), xs = [.ref a, .ref t] ∧ H a = some (Cau (.ref C) (some dd) a) ∧ H dd = some (.xd fs) ∧ CauC K C ∧ H t = some (.tup cs) ∧
  (∀ us, Vals cs us → us = cvs) ∧ PySem.W.kitAny K (.ref C) cvs = some b ∧ Q (.bl b) H
theorem call_isCT : CallR X (.builtin "isinstance") (rIsCT X.K) := by
  intro pins s σ H xs us Q I r h
  obtain ⟨a, C, dd, t, fs, cs, cvs, b, rfl, ea, ed, T, et, hc, hk, q⟩ := h
  obtain ⟨u, u2, rfl, r1, r2⟩ := vals2 r
  cases (show u = Value.ref a from r1)
  cases (show u2 = Value.ref t from r2)
  obtain ⟨oe, od, mA, J, _, _⟩ := cau_inst I ea ed
  obtain ⟨_, its, rv, o, ho, oc, n, od2⟩ := (show ObjOk X.prog X.w H s.heap t (.tup cs) from I.hok t _ et)
  obtain rfl := hc its rv
  obtain ⟨cl, dt, dat, sl⟩ := o
  cases oc
  cases od2
  exact PySem.W.kia_tup (PySem.W.kitx_exc T.cl T.x.ga T.x.gg T.x.exC T.ca T.cn T.ct T.cm) I.kIn J ho hk (fun z => nomatch z) fun tk => ⟨.bl b, H, I.tok _, rfl, q⟩
/-- x.f -/
def tCauF (K : PySem.W.Frag) (f : Str) (te : TE) : TE := fun σ H Q => te σ H fun x H1 => ∃ (a C dd : Addr) (fs : List (Str × V)) (v : V), x = .ref a ∧ H1 a = some (Cau (.ref C) (some dd) a) ∧ H1 dd = some (.xd fs) ∧ XfC K C ∧ PySem.W.findIn K (.ref C) f = some none ∧ fs.lookup f = some v ∧ Q v H1
theorem pe_cauf {e : Expr} {te : TE} {pos : Pos} {f : Str} (he : PE X e te) (hb : attributeBase e f X.env (eval e X.env) = eval e X.env := by rfl) : PE X (.Attribute e f pos) (tCauF X.K f te) := by
  refine ⟨fun pins s σ H Q I h => attr_of hb (thn (he.run pins s σ H _ I h) fun u s1 hh => ?_)⟩
  obtain ⟨x, H1, I1, rx, a, C, dd, fs, v, rfl, ea, ed, T, hno, l, q⟩ := hh
  cases (show u = Value.ref a from rx)
  obtain ⟨oe, od, mA, J, hl, hr⟩ := cau_inst I1 ea ed
  obtain ⟨u, hu, ru⟩ := RelO.some_of (v := v) (o := mA f) (by rw [← l]; exact hr f)
  exact HandSPX.exc_get I1.kIn J T.ga T.gg T.exC (PySem.W.findObj_own T.hdC hno rfl (by rw [hl, hu])) (handed_of ru) ⟨v, H1, I1.tok _, ru, q⟩
end
/-! ### o.m(e, ..) that may raise, in a try -/
def tMethS (C : Addr) (m : Str) (sp : Sp) (E : L2.St → XK) (ta : TE) (t : TA) : TE := fun σ H Q => ta σ H fun x H1 => ∃ a dx fs, x = .ref a ∧ H1 a = some (.ins C dx fs) ∧ fs.lookup m = none ∧ t σ H1 fun vs H2 => sp (x :: vs) H2 Q (E σ)
section
variable {X : Cx} {CX : CXT} {k : Nat} {f C : Addr} {fd : FuncData} {ps : List Str} {sp : Sp} {E : L2.St → XK} {m : Str} {pos apos : Pos} {e o : Expr} {es : List Expr} {ta : TE} {t : TA}
theorem pe_methS {pl : Sem Bool} (he : PE X o ta) (c : Cls X.K C) (hm : Meth X.K C m f) (F : FnOk X.prog X.w X.K X.mg X.base CX k f fd ps sp) (hr : Room k X.A) (hb : Binds X.K fd ps []) (hx : ∀ σ, PassesAt CX X σ (E σ)) (ha : PA X (e :: es) t)
    (hst : starEach (e :: es) X.env = (false, eval e X.env) :: starEach es X.env := by rfl) (hpl : (backTo pos (starEach es X.env)).any (·.1) = false := by rfl)
    (ht : eval (.Call (.Attribute o m apos) (e :: es) [] pos) X.env = (do
      let ov ← eval o X.env
      standAt apos.atName
      let (f, first) ← holding [ov] (getMethod ov m pl)
      callWith pos f first (backTo pos (starEach (e :: es) X.env)) (backToKw pos (keywordEach [] X.env))) := by rfl) :
    PE X (.Call (.Attribute o m apos) (e :: es) [] pos) (tMethS C m sp E ta t) := by
  refine ⟨fun pins s σ H Q I h => PySem.W.methodCall_KW (pl := pl) (thn (he.run pins s σ H _ I h) fun u s1 z => ?_) ht⟩
  obtain ⟨x, H1, I1, rx, a, dx, fs, rfl, ea, l, q⟩ := z
  cases (show u = Value.ref a from rx)
  refine getmeth_ok I1 ea c hm l ?_
  refine PySem.W.callWith_K (first := [.ref a]) (h₀ := X.base) I1.ok.mod.kin hm.kp (thn (ha.run pos pins s1 σ H1 _ I1 q) fun us s2 z => ?_) hst hpl
  obtain ⟨vs, H2, I2, r, q2⟩ := z
  exact ⟨I2.kIn, run_fnS (us := .ref a :: us) (vs := .ref a :: vs) F hr hb (hx σ) I2 (.cons rfl r) q2⟩
end
theorem exm_mk {K : PySem.W.Frag} {t : Value} {C : Addr} {v : Bool} (b : PySem.W.subIn K (.ref C) (.type "BaseException") = some true) (i : PySem.W.isClsIn K C = true) (ty : PySem.W.typeIn K (.ref C) = some (.type "type")) (s : PySem.W.subIn K t (.ref C) = some v) : PySem.W.exmOne K t (.ref C) = some v := by
  have i' : (PySem.W.clsIn K C).isSome = true := i
  unfold PySem.W.exmOne
  rw [b, if_pos (by decide)]
  show (if ((PySem.W.clsIn K C).isSome && PySem.W.typeIn K (.ref C) == some (.type "type")) = true then PySem.W.subIn K t (.ref C) else none) = some v
  rw [ty, i', if_pos (by simp)]
  exact s
end WE
namespace WT
open PySem PySem.Spec PyProof.Rows L2

/-! ### C(e, .., k = v, ..) in a try, its __init__ may raise -/
def tMakeKS (C : Addr) (n m : Nat) (sp : Sp) (gV : List V → List V → List V) (E : L2.St → XK) (t tk : TA) : TE := fun σ H Q => t σ H fun vs H1 => tk σ H1 fun zs H2 => vs.length = n ∧ zs.length = m ∧ ∀ x dx, H2 x = none → H2 dx = none → dx ≠ x →
  sp (gV (.ref x :: vs) zs) (upd (upd H2 dx (.own x)) x (.ins C dx [])) (fun v H3 => v = .non ∧ Q (.ref x) H3) (E σ)
section
variable {X : Cx} {CX : CXT} {k n : Nat} {f C : Addr} {fd : FuncData} {ps ks : List Str} {sp : Sp} {E : L2.St → XK} {x : Str} {p pos : Pos} {e : Expr} {es : List Expr} {kws : List Keyword} {t tk : TA} {g : List Value → List Value → List Value} {gV : List V → List V → List V}
theorem run_makeKS {pins : List (Addr × Obj)} {σ : L2.St} {H : Hp} {s : Shared} {Q : VK} {us ws : List Value} {vs zs : List V} (M : Mk X.K C f) (F : FnOk X.prog X.w X.K X.mg X.base CX k f fd ps sp) (hr : Room (k + 1) X.A) (hb : KBn X.K fd ps (n + 1) ks g gV) (hx : PassesAt CX X σ (E σ))
    (I : Inv X pins σ H s) (r : Vals vs us) (rz : Vals zs ws) (l1 : vs.length = n) (l2 : zs.length = ks.length)
    (h : ∀ x dx, H x = none → H dx = none → dx ≠ x → sp (gV (.ref x :: vs) zs) (upd (upd H dx (.own x)) x (.ins C dx [])) (fun v H2 => v = .non ∧ Q (.ref x) H2) (E σ)) :
    wpAny (model X.prog X.w) X.A (call (.ref C) us (ks.zip ws)) (EP X pins σ Q) X.xe s := by
  have hq := h (s.heap.objs.size + 1) s.heap.objs.size (I.hok.fresh (Nat.le_succ _)) (I.hok.fresh (Nat.le_refl _)) (Nat.ne_of_lt (Nat.lt_succ_self _))
  have I2 := Inv.made (C := C) I
  have r1 : Vals (V.ref (s.heap.objs.size + 1) :: vs) (Value.ref (s.heap.objs.size + 1) :: us) := .cons rfl r
  have r2 := hb.rel r1 rz
  have n1 : (Value.ref (s.heap.objs.size + 1) :: us).length = n + 1 := by
    rw [List.length_cons, ← r.length, l1]
  refine wpAny_call (make_map (f := f) I.kIn M.makes M.init (beq_iff_eq.mp M.fn) (codeAny_mono (F.run _ X.stack _ _ ⟨Value.ref (s.heap.objs.size + 1) :: us, ks.zip ws⟩ (g (Value.ref (s.heap.objs.size + 1) :: us) ws) _ _ (E σ) (hr.make C us (ks.zip ws))
    (I2.env0.make C us (ks.zip ws)) (hb.to _ (Value.ref (s.heap.objs.size + 1) :: us) ws I2.kIn n1 (rz.length.symm.trans l2)) r2 hq) fun r s' hq' => ?_))
  cases r with
  | error e => exact hx pins _ _ e s' I2 hq'
  | ok fl =>
    cases fl with
    | ret u =>
      obtain ⟨v, H', I3, rv, ev, q3⟩ := I2.after hq'
      subst ev
      exact ⟨rv, ⟨V.ref (s.heap.objs.size + 1), H', I3, rfl, q3⟩⟩
    | next => exact False.elim hq'
    | brk => exact False.elim hq'
    | cont => exact False.elim hq'
theorem pe_makeKS (M : Mk X.K C f) (F : FnOk X.prog X.w X.K X.mg X.base CX k f fd ps sp) (hr : Room (k + 1) X.A) (hg : Gl X x) (hm : X.mg x = some (.ref C)) (hb : KBn X.K fd ps (n + 1) ks g gV) (hx : ∀ σ, PassesAt CX X σ (E σ)) (ha : PA X (e :: es) t) (hkw : PK X kws tk)
    (hall : (backToKw pos (keywordEach kws X.env)).all (·.1.isSome) = true := by rfl) (hks : (backToKw pos (keywordEach kws X.env)).filterMap (·.1) = ks := by rfl) (hdb : (x == ("__debug__" : Str)) = false := by decide)
    (he : starEach (e :: es) X.env = (false, eval e X.env) :: starEach es X.env := by rfl) (hpl : ((backTo pos (starEach (e :: es) X.env)).any (·.1) || (backToKw pos (keywordEach kws X.env)).any (·.1.isNone)) = false := by rfl) :
    PE X (.Call (.Name x p) (e :: es) kws pos) (tMakeKS C n ks.length sp gV E t tk) := by
  refine ⟨fun pins s σ H Q I h => ?_⟩
  refine wpAny_Call_Name_kw (ld_glob I hg hm ?_ hdb)
  refine PySem.W.callWith_KW (h₀ := X.base) I.ok.mod.kin M.kp hall (thn (ha.run pos pins s σ H _ I h) fun us s1 ⟨vs, H1, I1, r, q⟩ => ?_) hpl he
  refine thn (hkw.run pos pins s1 σ H1 _ I1 q) fun ws s2 ⟨zs, H2, I2, rz, l1, l2, q2⟩ => ⟨I2.kIn, ?_⟩
  rw [hks]
  exact run_makeKS M F hr hb (hx σ) I2 r rz l1 l2 q2
theorem run_makeS {pins : List (Addr × Obj)} {σ : L2.St} {H : Hp} {s : Shared} {Q : VK} {us : List Value} {vs : List V} (M : Mk X.K C f) (F : FnOk X.prog X.w X.K X.mg X.base CX k f fd ps sp) (hr : Room (k + 1) X.A) {ds : List Value} {dvs : List V} (hb : Binds X.K fd ps ds) (hd : Vals dvs ds) (hx : PassesAt CX X σ (E σ))
    (I : Inv X pins σ H s) (r : Vals vs us)
    (h : ∀ x dx, H x = none → H dx = none → dx ≠ x → sp (.ref x :: vs ++ dvs) (upd (upd H dx (.own x)) x (.ins C dx [])) (fun v H2 => v = .non ∧ Q (.ref x) H2) (E σ)) :
    wpAny (model X.prog X.w) X.A (call (.ref C) us) (EP X pins σ Q) X.xe s := by
  have hq := h (s.heap.objs.size + 1) s.heap.objs.size (I.hok.fresh (Nat.le_succ _)) (I.hok.fresh (Nat.le_refl _)) (Nat.ne_of_lt (Nat.lt_succ_self _))
  have I2 := Inv.made (C := C) I
  have r1 : Vals (V.ref (s.heap.objs.size + 1) :: vs) (Value.ref (s.heap.objs.size + 1) :: us) := .cons rfl r
  have r2 : Vals (V.ref (s.heap.objs.size + 1) :: vs ++ dvs) (Value.ref (s.heap.objs.size + 1) :: us ++ ds) := r1.append hd
  have hl : (Value.ref (s.heap.objs.size + 1) :: us ++ ds).length = ps.length := by rw [← r2.length]; exact F.len _ _ _ _ hq
  refine wpAny_call (make_map (f := f) I.kIn M.makes M.init (beq_iff_eq.mp M.fn) (codeAny_mono (F.run _ X.stack _ _ ⟨Value.ref (s.heap.objs.size + 1) :: us, []⟩ (Value.ref (s.heap.objs.size + 1) :: us ++ ds) _ _ (E σ) (hr.make C us [])
    (I2.env0.make C us []) (hb _ (Value.ref (s.heap.objs.size + 1) :: us) I2.kIn hl) r2 hq) fun r s' hq' => ?_))
  cases r with
  | error e => exact hx pins _ _ e s' I2 hq'
  | ok fl =>
    cases fl with
    | ret u =>
      obtain ⟨v, H', I3, rv, ev, q3⟩ := I2.after hq'
      subst ev
      exact ⟨rv, ⟨V.ref (s.heap.objs.size + 1), H', I3, rfl, q3⟩⟩
    | next => exact False.elim hq'
    | brk => exact False.elim hq'
    | cont => exact False.elim hq'
def tMakeS (C : Addr) (sp : Sp) (dvs : List V) (E : L2.St → XK) (t : TA) : TE := fun σ H Q => t σ H fun vs H1 => ∀ x dx, H1 x = none → H1 dx = none → dx ≠ x →
  sp (.ref x :: vs ++ dvs) (upd (upd H1 dx (.own x)) x (.ins C dx [])) (fun v H3 => v = .non ∧ Q (.ref x) H3) (E σ)
theorem pe_makeS {ds : List Value} {dvs : List V} (M : Mk X.K C f) (F : FnOk X.prog X.w X.K X.mg X.base CX k f fd ps sp) (hr : Room (k + 1) X.A) (hg : Gl X x) (hm : X.mg x = some (.ref C)) (hb : Binds X.K fd ps ds) (hd : Vals dvs ds) (hx : ∀ σ, PassesAt CX X σ (E σ))
    (ha : PA X (e :: es) t) (hdb : (x == ("__debug__" : Str)) = false := by decide) (he : starEach (e :: es) X.env = (false, eval e X.env) :: starEach es X.env := by rfl) (hpl : (backTo pos (starEach es X.env)).any (·.1) = false := by rfl) :
    PE X (.Call (.Name x p) (e :: es) [] pos) (tMakeS C sp dvs E t) := by
  refine ⟨fun pins s σ H Q I h => ?_⟩
  refine wpAny_Call_Name_kw (ld_glob I hg hm ?_ hdb)
  refine PySem.W.callWith_K (h₀ := X.base) I.ok.mod.kin M.kp (thn (ha.run pos pins s σ H _ I h) fun us s1 ⟨vs, H1, I1, r, q⟩ => ⟨I1.kIn, ?_⟩) he hpl
  exact run_makeS M F hr hb hd (hx σ) I1 r q
end

/-! ### two tuples of the very same items -/
def Sm (x : V) : Prop := flatB x = true ∨ ∃ a, x = .ref a
def rEqT (K : PySem.W.Frag) : R2 := fun x y H Q => ∃ a b xs, x = .ref a ∧ y = .ref b ∧ SqT K H a xs ∧ SqT K H b xs ∧ (∀ v ∈ xs, Sm v) ∧ Q (.bl true) H
section
variable {X : Cx} {K : PySem.W.Frag}
theorem eq_sm {A : Around} {s : Shared} {x : V} {u v : Value} (h : Sm x) (r : RelV x u) (r2 : RelV x v) : SeqAt.EqAt A s u v true := by
  rcases h with h | ⟨a, rfl⟩
  · exact eqAt_same r r2 h
  · cases (show u = Value.ref a from r)
    cases (show v = Value.ref a from r2)
    exact SeqAt.EqAt.same _
theorem op_eqT (hu : X.A.units + 64 < cLine) : OpR X (compareOp .Eq) (rEqT X.K) := by
  intro pins s σ H x y v u Q I rx ry h
  obtain ⟨a, b, xs, rfl, rfl, ha, hb, hm, q⟩ := h
  cases (show v = Value.ref a from rx)
  cases (show u = Value.ref b from ry)
  obtain ⟨its, r, e, _⟩ := I.tuple ha
  obtain ⟨its2, r2, e2, _⟩ := I.tuple hb
  have hsz : its.toArray.size = its2.toArray.size := by rw [List.size_toArray, List.size_toArray, ← r.length, ← r2.length]
  refine GQ.rc_tupG hsz (by omega) (fun _ s' => s' = s) e e2 (fun i h1 h2 s' es => ?_) (fun s' es => ?_) rfl
  · subst es
    have k1 : i < xs.length := by rw [r.length]; simpa using h1
    obtain ⟨u1, hu1, ru⟩ := r.get (List.getElem?_eq_getElem k1)
    obtain ⟨v1, hv1, rv⟩ := r2.get (List.getElem?_eq_getElem k1)
    have g1 : its[i]? = some its.toArray[i] := by
      have h1' : i < its.length := by simpa using h1
      rw [List.getElem?_eq_getElem h1'] <;> simp
    have g2 : its2[i]? = some its2.toArray[i] := by
      have h2' : i < its2.length := by simpa using h2
      rw [List.getElem?_eq_getElem h2'] <;> simp
    rw [g1] at hu1
    rw [g2] at hv1
    rw [Option.some.inj hu1, Option.some.inj hv1]
    exact eq_sm (hm _ (List.getElem_mem k1)) ru rv X.prog X.w X.xe _ ⟨rfl, rfl⟩
  · subst es
    exact ⟨.bl true, H, I, rfl, q⟩
theorem opEqT (hu : X.A.units + 64 < cLine) (h : X.K = K := by rfl) : OpR X (compareOp .Eq) (rEqT K) := h ▸ op_eqT hu
end
end WT
namespace WK
open PySem PySem.Spec PyProof.Rows L2 WG

/-! ### repr of data with dicts of one text key -/
def RK (prog : Program) (w : World) (h : Heap) (d : PyData) (u : Value) : Prop := ∃ as bs, Reads h u d as ∧ ReadAtMost h d.depth bs ∧ ReprK prog w bs h d.depth u d.shown
def RKs (prog : Program) (w : World) (h : Heap) (ds : List PyData) (us : List Value) : Prop := ∃ as bs, ReadsAll h us ds as ∧ ReadAtMost h (PyData.depthAll ds) bs ∧ ReprAllK prog w bs h (PyData.depthAll ds) us (PyData.shownAll ds)
section
variable {prog : Program} {w : World} {h : Heap} {a : Addr} {o : Obj} {u : Value} {us : List Value} {d : PyData} {ds : List PyData}
theorem RKs.nil : RKs prog w h [] [] := ⟨_, [], .nil, (fun _ z => nomatch z), by simp only [PyData.shownAll]; exact .nil⟩
theorem RKs.cons (x : RK prog w h d u) (y : RKs prog w h ds us) : RKs prog w h (d :: ds) (u :: us) := by
  obtain ⟨as, b1, r1, m1, k1⟩ := x
  obtain ⟨cs, b2, r2, m2, k2⟩ := y
  refine ⟨_, b1 ++ b2, .cons r1 r2, ?_, ?_⟩
  · simp only [PyData.depthAll]
    exact (m1.mono (Nat.le_max_left _ _)).append (m2.mono (Nat.le_max_right _ _))
  · simp only [PyData.depthAll, PyData.shownAll]
    exact .cons ((k1.more fun b z => List.mem_append_left _ z).level_le (Nat.le_max_left _ _)) (k2.more_le (fun b z => List.mem_append_right _ z) (Nat.le_max_right _ _))
theorem RK.list {vs : Array Value} {n : Nat} (h1 : h.get? a = some o) (h2 : o.cls = .type "list") (h3 : o.data = .seq vs n) (x : RKs prog w h ds vs.toList) : RK prog w h (.list ds) (.ref a) := by
  obtain ⟨as, bs, r, m, k⟩ := x
  have rr : Reads h (.ref a) (.list ds) _ := .list h1 h2 h3 r
  have dp : PyData.depthAll ds < (PyData.list ds).depth := by simp only [PyData.depth]; omega
  have no : a ∉ bs := not_mem_of_deeper rr dp m
  refine ⟨_, a :: bs, rr, ReadAtMost.cons rr (Nat.le_of_lt dp) m, ?_⟩
  simp only [PyData.depth, PyData.shown]
  obtain ⟨l⟩ := vs
  cases l with
  | nil =>
    cases (show ReadsAll h [] ds _ from r)
    simp only [PyData.shownAll, listText_nil]
    exact ReprK.listEmpty h1 h2 h3
  | cons x l => exact ReprK.list h1 h2 h3 no (by simpa using k.length_eq) (fun i y e => k.item i y (by simpa using e))
theorem RK.tuple {vs : Array Value} {n : Nat} (h1 : h.get? a = some o) (h2 : o.cls = .type "tuple") (h3 : o.data = .seq vs n) (x : RKs prog w h ds vs.toList) : RK prog w h (.tuple ds) (.ref a) := by
  obtain ⟨as, bs, r, m, k⟩ := x
  have rr : Reads h (.ref a) (.tuple ds) _ := .tuple h1 h2 h3 r
  have dp : PyData.depthAll ds < (PyData.tuple ds).depth := by simp only [PyData.depth]; omega
  have no : a ∉ bs := not_mem_of_deeper rr dp m
  refine ⟨_, a :: bs, rr, ReadAtMost.cons rr (Nat.le_of_lt dp) m, ?_⟩
  simp only [PyData.depth, PyData.shown]
  exact ReprK.tuple h1 h2 h3 no k
theorem RK.dict {es : Array DictEntry} {n : Nat} {kvs : List (PyData × PyData)} (h1 : h.get? a = some o) (h2 : o.cls = .type "dict") (h3 : o.data = .dict es n) (ns : (a == sysModules) = false)
    (x : RKs prog w h (kvs.map (·.1)) (es.toList.map (·.key))) (y : RKs prog w h (kvs.map (·.2)) (es.toList.map (·.val))) : RK prog w h (.dict kvs) (.ref a) := by
  obtain ⟨as, b1, r1, m1, k1⟩ := x
  obtain ⟨cs, b2, r2, m2, k2⟩ := y
  have rr : Reads h (.ref a) (.dict kvs) _ := .dict h1 h2 h3 r1 r2
  have dp : PyData.depthKv kvs < (PyData.dict kvs).depth := by simp only [PyData.depth]; omega
  have m : ReadAtMost h (PyData.depthKv kvs) (b1 ++ b2) := (m1.mono (PyData.depthAll_keys_le kvs)).append (m2.mono (PyData.depthAll_vals_le kvs))
  have no : a ∉ b1 ++ b2 := not_mem_of_deeper rr dp m
  refine ⟨_, a :: (b1 ++ b2), rr, ReadAtMost.cons rr (Nat.le_of_lt dp) m, ?_⟩
  simp only [PyData.depth, PyData.shown, PyData.shownKv_eq]
  exact ReprK.dict h1 h2 h3 ns no (ReprEntriesK.of_two es.toList _ _ (k1.more_le (fun b z => List.mem_append_left _ z) (PyData.depthAll_keys_le kvs)) (k2.more_le (fun b z => List.mem_append_right _ z) (PyData.depthAll_vals_le kvs)))
theorem RK.int {i : Int} {t : Tok} (z : (PyData.int i).showable = true) : RK prog w h (.int i) (.int i t) := ⟨_, [], .int i t, (fun _ z => nomatch z), by simp only [PyData.shown]; exact .of_is (ReprIs.int t (by simpa [PyData.showable] using z)) _ _ _⟩
theorem RK.str {x : Str} {t : Tok} (z : (PyData.str x).shown.length ≤ sizeLine) : RK prog w h (.str x) (.str x t) := ⟨_, [], .str x t, (fun _ z => nomatch z), by simp only [PyData.shown]; exact .of_is (ReprIs.str x t (by simpa only [PyData.shown] using z)) _ _ _⟩
theorem RK.non : RK prog w h .none .none := ⟨_, [], .none, (fun _ z => nomatch z), by simp only [PyData.shown]; exact .of_is ReprIs.none _ _ _⟩
theorem RK.bool {b : Bool} : RK prog w h (.bool b) (.bool b) := ⟨_, [], .bool b, (fun _ z => nomatch z), by simp only [PyData.shown]; exact .of_is (ReprIs.bool b) _ _ _⟩
theorem shows_list {vs : Array Value} {n : Nat} (h1 : h.get? a = some o) (h2 : o.cls = .type "list") (h3 : o.data = .seq vs n) (x : RKs prog w h ds vs.toList) (hz : (PyData.list ds).shown.length ≤ sizeLine) : ShowsBy prog w h a (.list ds) "list" "list.__repr__" := by
  obtain ⟨as, bs, r, m, k⟩ := x
  have rr : Reads h (.ref a) (.list ds) _ := .list h1 h2 h3 r
  have dp : PyData.depthAll ds < (PyData.list ds).depth := by simp only [PyData.depth]; omega
  have no : a ∉ bs := not_mem_of_deeper rr dp m
  refine ⟨F.slot_list_repr.toG, F.slot_list_str, F.slot_list_format, fun s hk0 => ⟨o, hk0 _ _ h1, h2⟩, fun A E s Q hg hu hk0 hQ => ?_⟩
  simp only [PyData.depth] at hu
  simp only [PyData.shown] at hQ hz
  obtain ⟨l⟩ := vs
  cases l with
  | nil =>
    cases (show ReadsAll h [] ds _ from r)
    simp only [PyData.shownAll, listText_nil] at hQ
    exact call_list_repr_empty ⟨o, hk0 _ _ h1, h2⟩ (hk0 _ _ h1) h3 (hQ s.heap _ _ fun _ _ e => e)
  | cons x l => exact call_list_reprK h1 h2 h3 no (by simpa using k.length_eq) (fun i y e => k.item i y (by simpa using e)) hg (fun b _ => Clear.nil b) hu hk0 hQ hz
theorem shows_tuple {vs : Array Value} {n : Nat} (h1 : h.get? a = some o) (h2 : o.cls = .type "tuple") (h3 : o.data = .seq vs n) (x : RKs prog w h ds vs.toList) (hz : (PyData.tuple ds).shown.length ≤ sizeLine) : ShowsBy prog w h a (.tuple ds) "tuple" "tuple.__repr__" := by
  obtain ⟨as, bs, r, m, k⟩ := x
  have rr : Reads h (.ref a) (.tuple ds) _ := .tuple h1 h2 h3 r
  have dp : PyData.depthAll ds < (PyData.tuple ds).depth := by simp only [PyData.depth]; omega
  have no : a ∉ bs := not_mem_of_deeper rr dp m
  refine ⟨F.slot_tuple_repr, F.slot_tuple_str, F.slot_tuple_format, fun s hk0 => ⟨o, hk0 _ _ h1, h2⟩, fun A E s Q hg hu hk0 hQ => ?_⟩
  simp only [PyData.depth] at hu
  simp only [PyData.shown] at hQ hz
  exact call_tuple_reprK h1 h2 h3 no k hg (fun b _ => Clear.nil b) hu hk0 hQ hz
end
mutual
inductive Dk (K : PySem.W.Frag) (H : Hp) : V → PyData → Prop
  | non : Dk K H .non .none
  | bl (b : Bool) : Dk K H (.bl b) (.bool b)
  | int (i : Int) : (PyData.int i).showable = true → Dk K H (.int i) (.int i)
  | str (x : Str) : (PyData.str x).shown.length ≤ sizeLine → Dk K H (.str x) (.str x)
  | lst {a : Addr} {xs : List V} {ds : List PyData} : SqL K H a xs → Dks K H xs ds → Dk K H (.ref a) (.list ds)
  | tup {a : Addr} {xs : List V} {ds : List PyData} : SqT K H a xs → Dks K H xs ds → Dk K H (.ref a) (.tuple ds)
  | dct0 {a : Addr} : H a = some (.dK []) → Dk K H (.ref a) (.dict [])
  | dct {a : Addr} {x : Str} {v : V} {d : PyData} : H a = some (.dK [(.inr x, v)]) → (PyData.str x).shown.length ≤ sizeLine → Dk K H v d → Dk K H (.ref a) (.dict [(.str x, d)])
inductive Dks (K : PySem.W.Frag) (H : Hp) : List V → List PyData → Prop
  | nil : Dks K H [] []
  | cons {v : V} {vs : List V} {d : PyData} {ds : List PyData} : Dk K H v d → Dks K H vs ds → Dks K H (v :: vs) (d :: ds)
end
section
variable {X : Cx} {pins : List (Addr × Obj)} {σ : L2.St} {H : Hp} {s : Shared}
mutual
theorem Dk.rk (I : Inv X pins σ H s) : ∀ {v : V} {d : PyData}, Dk X.K H v d → ∀ {u : Value}, RelV v u → RK X.prog X.w s.heap d u
  | _, _, .non, _, r => by
    cases r
    exact .non
  | _, _, .bl b, _, r => by
    cases r
    exact .bool
  | _, _, .int i z, _, r => by
    obtain ⟨t, rfl⟩ := r
    exact .int z
  | _, _, .str x z, _, r => by
    obtain ⟨t, rfl⟩ := r
    exact .str z
  | _, _, .lst hs ha, _, r => by
    cases r
    obtain ⟨its, rv, ⟨o, n, ho, hc, _, hd⟩, _⟩ := I.list hs
    exact .list ho hc hd (by simpa using Dks.rk I ha rv)
  | _, _, .tup hs ha, _, r => by
    cases r
    obtain ⟨its, rv, ⟨o, ho, hc, n, hd⟩, _⟩ := I.tuple hs
    exact .tuple ho hc hd (by simpa using Dks.rk I ha rv)
  | _, _, .dct0 e, _, r => by
    cases r
    obtain ⟨_, ns, vs, kv, o, es, ep, ho, hx, hd, _, pr, _⟩ := dk_of I.hok e
    cases kv
    have ee : es.toList = [] := by
      cases q : es.toList with
      | nil => rfl
      | cons _ _ =>
        rw [q] at pr
        cases pr
    exact .dict ho hx.1 hd ns (by rw [ee]; exact .nil) (by rw [ee]; exact .nil)
  | _, _, .dct (x := x) e z hv, _, r => by
    cases r
    obtain ⟨_, ns, vs, kv, o, es, ep, ho, hx, hd, _, pr, _⟩ := dk_of I.hok e
    obtain ⟨⟨k, u⟩, rfl, e1, r1⟩ : ∃ q : Key × Value, vs = [q] ∧ Sum.inr x = q.1 ∧ RelV _ q.2 := by
      cases kv with
      | cons h t =>
        cases t
        exact ⟨_, rfl, h.1, h.2⟩
    dsimp only at e1 r1
    subst e1
    obtain ⟨en, ee, ek, ev⟩ : ∃ en : DictEntry, es.toList = [en] ∧ (mixKind X.prog X.w).is (.inr x) en.key = true ∧ en.val = u := by
      cases q : es.toList with
      | nil =>
        rw [q] at pr
        cases pr
      | cons en rest =>
        rw [q] at pr
        cases pr with
        | cons h1 h2 h3 =>
          cases h3
          exact ⟨en, rfl, h1, h2⟩
    have hk : ∃ t, en.key = .str x t := by
      rcases keyIs_shape (k := .inr x) (v := en.key) ek with ⟨i, t, e, _⟩ | ⟨y, t, e, e2⟩
      · cases e
      · cases e
        exact ⟨t, e2⟩
    obtain ⟨t, hk⟩ := hk
    refine .dict ho hx.1 hd ns ?_ ?_
    · rw [ee]
      show RKs _ _ _ [.str x] [en.key]
      rw [hk]
      exact .cons (.str z) .nil
    · rw [ee]
      show RKs _ _ _ [_] [en.val]
      rw [ev]
      exact .cons (Dk.rk I hv r1) .nil
theorem Dks.rk (I : Inv X pins σ H s) : ∀ {vs : List V} {ds : List PyData}, Dks X.K H vs ds → ∀ {us : List Value}, Vals vs us → RKs X.prog X.w s.heap ds us
  | _, _, .nil, _, r => by
    cases r
    exact .nil
  | _, _, .cons h1 h2, _, r => by
    cases r with
    | cons r1 r2 => exact .cons (Dk.rk I h1 r1) (Dks.rk I h2 r2)
end
end
def seqD : PyData → Bool
  | .list _ => true
  | .tuple _ => true
  | _ => false
theorem Dk.shows {X : Cx} {pins : List (Addr × Obj)} {σ : L2.St} {H : Hp} {s : Shared} (I : Inv X pins σ H s) {a : Addr} {d : PyData} (h : Dk X.K H (.ref a) d) (sd : seqD d = true) (hz : d.shown.length ≤ sizeLine) : ∃ T idr, ShowsBy X.prog X.w s.heap a d T idr := by
  cases h with
  | lst hs ha =>
    obtain ⟨its, rv, ⟨o, n, ho, hc, _, hd⟩, _⟩ := I.list hs
    exact ⟨_, _, shows_list ho hc hd (by simpa using Dks.rk I ha rv) hz⟩
  | tup hs ha =>
    obtain ⟨its, rv, ⟨o, ho, hc, n, hd⟩, _⟩ := I.tuple hs
    exact ⟨_, _, shows_tuple ho hc hd (by simpa using Dks.rk I ha rv) hz⟩
  | dct0 _ => cases sd
  | dct _ _ _ => cases sd
/-- how long and how deep -/
structure Sh (d : PyData) (L k : Nat) : Prop where
  dp : d.depth ≤ k
  ln : d.shown.length ≤ L
theorem Sh.mono {d : PyData} {L k M l : Nat} (h : Sh d L k) (h1 : L ≤ M) (h2 : k ≤ l) : Sh d M l := ⟨Nat.le_trans h.dp h2, Nat.le_trans h.ln h1⟩
theorem Sh.of {d : PyData} {L k : Nat} (h : Shows d L k) : Sh d L k := ⟨h.dp, h.ln⟩
theorem sh_all {L k : Nat} : ∀ {ds : List PyData}, (∀ d ∈ ds, Sh d L k) → PyData.depthAll ds ≤ k ∧ ((PyData.shownAll ds).map (·.length)).sum ≤ L * ds.length ∧ (PyData.shownAll ds).length = ds.length
  | [], _ => ⟨Nat.zero_le _, Nat.zero_le _, rfl⟩
  | d :: ds, h => by
    obtain ⟨h3, h4, h5⟩ := sh_all (fun x m => h x (List.mem_cons_of_mem _ m))
    have h0 := h d (List.mem_cons_self ..)
    refine ⟨?_, ?_, ?_⟩
    · simp only [PyData.depthAll]
      exact Nat.max_le.mpr ⟨h0.dp, h3⟩
    · have := h0.ln
      simp only [PyData.shownAll, List.map_cons, List.sum_cons, List.length_cons]
      rw [Nat.mul_succ]
      omega
    · simp only [PyData.shownAll, List.length_cons, h5]
theorem Sh.list {ds : List PyData} {L k : Nat} (h : ∀ d ∈ ds, Sh d L k) : Sh (.list ds) ((L + 2) * ds.length + 3) (k + 1) := by
  obtain ⟨h3, h4, h5⟩ := sh_all h
  refine ⟨by simpa only [PyData.depth] using Nat.succ_le_succ h3, ?_⟩
  have := listText_len_le (PyData.shownAll ds)
  rw [h5] at this
  simp only [PyData.shown, Nat.add_mul]
  omega
theorem Sh.tup {ds : List PyData} {L k : Nat} (h : ∀ d ∈ ds, Sh d L k) : Sh (.tuple ds) ((L + 2) * ds.length + 3) (k + 1) := by
  obtain ⟨h3, h4, h5⟩ := sh_all h
  refine ⟨by simpa only [PyData.depth] using Nat.succ_le_succ h3, ?_⟩
  have := tupleText_len_le (PyData.shownAll ds)
  rw [h5] at this
  simp only [PyData.shown, Nat.add_mul]
  omega
theorem Sh.dict {x : Str} {d : PyData} {L k : Nat} (h : Sh d L k) (hx : (PyData.str x).shown.length ≤ 10) : Sh (.dict [(.str x, d)]) (L + 20) (k + 1) := by
  refine ⟨?_, ?_⟩
  · have := h.dp
    simp only [PyData.depth, PyData.depthKv]
    omega
  · have := h.ln
    simp only [PyData.shown, PyData.shownKv] at hx ⊢
    unfold dictText
    rw [strLen_append, strLen_append]
    show _ + (_ ++ ": " ++ _ : Str).length + _ ≤ _
    rw [strLen_append, strLen_append]
    show 1 + (_ + 2 + _) + 1 ≤ _
    omega
def rReprK (K : PySem.W.Frag) : List V → Hp → VK → Prop := fun xs H Q => ∃ (a : Addr) (d : PyData) (L k : Nat), xs = [.ref a] ∧ Dk K H (.ref a) d ∧ seqD d = true ∧ Sh d L k ∧ L ≤ 16000000 ∧ k ≤ 60 ∧ Q (.str d.shown) H
theorem call_reprK {X : Cx} (g : NoG X.A) (hu : X.A.units + 64 < cLine) : CallR X (.builtin "repr") (rReprK X.K) := by
  intro pins s σ H xs us Q I r h
  obtain ⟨a, d, L, k, rfl, hd, sd, S, hL, hk, q⟩ := h
  rw [Vals.ref1 r]
  have h1 := S.dp
  have h2 := S.ln
  obtain ⟨T, idr, W⟩ := Dk.shows I hd sd (by rw [sizeLine_eq]; omega)
  refine call_repr_slot (A := X.A) (by omega) (W.typeIs s (fun _ _ e => e)) W.slotRepr ?_
  exact (W.call X.A.in1 X.xe s _ g (by show X.A.units + 1 + d.depth < cLine; omega) (fun _ _ e => e) fun h' u tk hk => ⟨_, _, rfl, ⟨.str _, H, I.kept hk, ⟨_, rfl⟩, q⟩⟩)
/-! ### the end: one table of code objects, no repr under way -/
open LamX in
theorem law_callTG {P : Program} {w : World} {K : PySem.W.Frag} {mg mb : Str → Option Value} {k : Nat} {fa a c T : Addr} {fd : FuncData} {x : Str} {sp : Sp} {s₁ : Shared} {vs : List Value} {ns : List Int}
    (KX : K.In s₁.heap) (hns : s₁.heap.Ns mainGlobals mg) (hb : s₁.heap.Ns builtinsNs mb) (hbb : ∀ x : Str, x ≠ "__name__" → mb x = bootBuiltins x) (hlim : s₁.heap.NoLimit) (hg : s₁.gens = #[])
    (hT : s₁.heap.get? T = some (PySem.W.tabObj #[])) (nT : K.lookup T = none) (hc0 : PySem.W.codeHdIn K c T = true)
    (hbm : ∃ (bm : Addr) (ob : Obj), mg "__builtins__" = some (.ref bm) ∧ bm ≠ builtinsNs ∧ s₁.heap.get? bm = some ob ∧ ob.cls = .type "module" ∧ ob.dict = some builtinsNs ∧ ob.data = .plain)
    (ha : s₁.heap.get? a = some { cls := .type "list", data := .seq vs.toArray }) (hi : IntsAre vs ns) (hl : ns.length ≤ sizeLine) (hr : Room k callerA)
    (F : ∀ base : Heap, K.In base → base.Ns mainGlobals mg → (∀ c, PySem.W.codeHdIn K c T = true → TabB base mg c T) → FnG P w K mg base CX0 k fa fd [x] sp) (hbind : ∀ (s : Shared) (u : Value), BindsTo s fd ⟨[u], []⟩ [(x, u)])
    (hsp : ∀ H : Hp, H T = some (.tbl #[]) → SqL K H a (ns.map V.int) → sp [.ref a] H (fun v _ => v = .bl true) fun _ _ _ => False) :
    codeAny (model P w) callerA (.call (.ref fa) ⟨[.ref a], []⟩) (fun r s' => r = .ok (.ret (.bool true)) ∧ OldK s₁.heap s'.heap ∧ s'.os = s₁.os ∧ AllBare s'.gens) s₁ := by
  have rv := vals_ints hi
  have aT : a ≠ T := fun z => by
    rw [z, hT] at ha
    cases (show Data.fields #[] = Data.seq vs.toArray _ from congrArg Obj.data (Option.some.inj ha))
  have from_ : ∀ H : Hp, H T = some (.tbl #[]) → (∀ b, H b = none ∨ b = T ∨ ∃ o xs, H b = some (.frz o (.lst xs))) → SqL K H a (ns.map V.int) → HOk P w H s₁.heap → (∀ b, H b ≠ none → b = a ∨ b = T) → (H a ≠ none → K.lookup a = none) →
      codeAny (model P w) callerA (.call (.ref fa) ⟨[.ref a], []⟩) (fun r s' => r = .ok (.ret (.bool true)) ∧ OldK s₁.heap s'.heap ∧ s'.os = s₁.os ∧ AllBare s'.gens) s₁ := by
    intro H hH only seq ok alone noK
    -- what is neither the script nor the table, lies in the base
    have keepB : ∀ {b : Addr} {o : Obj}, s₁.heap.get? b = some o → (∀ vs n, o.data ≠ .seq vs n) → o ≠ PySem.W.tabObj #[] → (hidT s₁.heap H).get? b = some o := fun {b o} e h1 h2 => hidT_get e (by
      cases q : H b with
      | none => rfl
      | some u =>
        rcases alone b (by rw [q]; simp) with z | z
        · rw [z, ha] at e
          cases e
          exact absurd rfl (h1 _ _)
        · rw [z, hT] at e
          cases e
          exact absurd rfl h2)
    have nsB : ∀ {b : Addr} {m : Str → Option Value}, s₁.heap.Ns b m → (hidT s₁.heap H).Ns b m := fun ⟨o, es, ep, e, d, r⟩ => ⟨o, es, ep, keepB e (fun vs n z => by rw [d] at z; cases z) (fun z => by rw [z] at d; cases d), d, r⟩
    have KB : K.In (hidT s₁.heap H) := fun b o e => hidT_get (KX b o e) (by
      cases q : H b with
      | none => rfl
      | some u =>
        rcases alone b (by rw [q]; simp) with z | z
        · rw [z] at e q
          rw [noK (by rw [q]; simp)] at e
          cases e
        · rw [z, nT] at e
          cases e)
    have md : L2.Mod K mg (hidT s₁.heap H) := by
      obtain ⟨mc, h1, h2⟩ := hlim
      exact ⟨KB, nsB hns, ⟨mb, nsB hb, hbb⟩, mc, nsB h1, h2⟩
    have TB : ∀ c, PySem.W.codeHdIn K c T = true → TabB (hidT s₁.heap H) mg c T := fun c hc => by
      refine ⟨PySem.W.codeHd_of_K KB hc, ?_, fun z => ?_⟩
      · obtain ⟨bm, ob, b1, b2, b3, b4, b5, b6⟩ := hbm
        have nG : bm ≠ mainGlobals := fun q => by
          obtain ⟨o, es, ep, e, hd, _⟩ := hns
          rw [q, e] at b3
          cases b3
          rw [hd] at b6
          cases b6
        have nP : bm ≠ T := fun q => by
          rw [q, hT] at b3
          cases b3
          cases b6
        refine ⟨bm, ob, b1, b2, nG, nP, keepB b3 (fun vs n z => ?_) (fun z => ?_), b4, b5, b6⟩
        · rw [b6] at z
          cases z
        · rw [z] at b6
          cases b6
      · obtain ⟨o, es, ep, e, hd, _⟩ := hns
        rw [z, hT] at e
        cases e
        cases hd
    have en : Env0 P w K mg (hidT s₁.heap H) callerA [] s₁ H := ⟨rfl, md, fun b o e => of_hidT e, Nat.le_of_eq (hidT_size _ _), trivial, fun b z => (List.not_mem_nil z).elim, ok, .of_eq hg⟩
    refine codeAny_mono ((F _ KB (nsB hns) TB).go callerA [] s₁ H ⟨[.ref a], []⟩ [.ref a] [.ref a] _ _ rfl hr en (hbind s₁ (.ref a)) (.cons rfl .nil) (hsp H hH seq)) fun r s2 z => ?_
    rcases r with e | fl
    · exact z.elim
    cases fl with
    | next => exact z.elim
    | brk => exact z.elim
    | cont => exact z.elim
    | ret u =>
      obtain ⟨v, H2, os, bare, un, ok2, ru, ev⟩ := z
      rw [show v = V.bl true from ev] at ru
      cases (show u = Value.bool true from ru)
      have stay : ∀ b o, b ≠ T → s₁.heap.get? b = some o → s2.heap.get? b = some o := fun b o nb e => by
        rcases only b with z | z | ⟨ob, xs, z⟩
        · exact un.keep b o e z List.not_mem_nil List.not_mem_nil
        · exact absurd z nb
        · have e1 := (ok b _ z).1
          rw [e] at e1
          cases e1
          exact (ok2 b _ (un.frzs b _ _ z)).1
      obtain ⟨more, hm⟩ : ∃ more : Array Value, s2.heap.get? T = some { cls := .none, data := .fields more } := by
        obtain ⟨more, z⟩ := un.tbls T #[] hH
        exact ⟨_, ok2 T _ z⟩
      refine ⟨rfl, ⟨fun b o e => ?_, fun b o e => ?_⟩, os, bare⟩
      · by_cases eb : b = T
        · rw [eb] at e ⊢
          rw [hT] at e
          cases e
          exact .inr (.inl ⟨((PySem.W.codeHd_of_K KX hc0).tab hT).isCodeTable, rfl, #[], more, rfl, by rw [Array.empty_append]; exact hm⟩)
        · exact .inl (stay b o eb e)
      · by_cases eb : b = T
        · rw [eb]
          exact ⟨_, hm⟩
        · exact ⟨o, stay b o eb e⟩
  cases hk : K.lookup a with
  | some o =>
    have e := KX a o hk
    rw [ha] at e
    cases e
    have one : ∀ b u, (fun b => if b = T then some (HO.tbl #[]) else none : Hp) b = some u → b = T ∧ u = .tbl #[] := fun b u z => by
      by_cases eb : b = T
      · exact ⟨eb, (Option.some.inj ((if_pos eb).symm.trans z)).symm⟩
      · cases (if_neg eb).symm.trans z
    refine from_ (fun b => if b = T then some (.tbl #[]) else none) (if_pos rfl) (fun b => ?_) (.inr ⟨_, vs.toArray, _, hk, rfl, rfl, rfl, by rw [List.size_toArray, hi.length]; exact hl, by simpa using rv⟩) (fun b u z => ?_) (fun b z => ?_) fun z => absurd (if_neg aT) z
    · by_cases eb : b = T
      · exact .inr (.inl eb)
      · exact .inl (if_neg eb)
    · obtain ⟨rfl, rfl⟩ := one b u z
      exact hT
    · by_cases eb : b = T
      · exact .inr eb
      · exact absurd (if_neg eb) z
  | none =>
    have one : ∀ b u, (fun b => if b = a then some (HO.frz { cls := .type "list", data := .seq vs.toArray } (.lst (ns.map V.int))) else if b = T then some (HO.tbl #[]) else none : Hp) b = some u → (b = a ∧ u = .frz { cls := .type "list", data := .seq vs.toArray } (.lst (ns.map V.int))) ∨ (b = T ∧ u = .tbl #[]) := fun b u z => by
      by_cases eb : b = a
      · exact .inl ⟨eb, (Option.some.inj ((if_pos eb).symm.trans z)).symm⟩
      · have z := (if_neg eb).symm.trans z
        by_cases et : b = T
        · exact .inr ⟨et, (Option.some.inj ((if_pos et).symm.trans z)).symm⟩
        · cases (if_neg et).symm.trans z
    refine from_ (fun b => if b = a then some (.frz { cls := .type "list", data := .seq vs.toArray } (.lst (ns.map V.int))) else if b = T then some (.tbl #[]) else none) ((if_neg (Ne.symm aT)).trans (if_pos rfl)) (fun b => ?_) (.inl (.inr ⟨_, if_pos rfl⟩)) (fun b u z => ?_) (fun b z => ?_) fun _ => hk
    · by_cases eb : b = a
      · exact .inr (.inr ⟨_, _, if_pos eb⟩)
      · by_cases et : b = T
        · exact .inr (.inl et)
        · exact .inl ((if_neg eb).trans (if_neg et))
    · rcases one b u z with ⟨rfl, rfl⟩ | ⟨rfl, rfl⟩
      · exact ⟨ha, by rw [List.length_map]; exact hl, vs, _, rv, ha⟩
      · exact hT
    · by_cases eb : b = a
      · exact .inl eb
      · by_cases et : b = T
        · exact .inr et
        · exact absurd ((if_neg eb).trans (if_neg et)) z
theorem walk_TG {l : PySem.W.OpenLaw} {n k : Nat} {q : Program} {loose : List Str} {XP : (Str → Option Value) → Heap → Prop} {YP : World → Heap → Prop} {d : DefRec} {K : Params → PySem.W.Frag} {sp : World → Sp} {x : Str} {T : Addr}
    (hn : l.most = some n) (hn2 : n ≤ sizeLine) (hdf : d.params.defaults = []) (hr : Room k callerA) (hY : ∀ (w : World) (h : Heap), YP w h → (K w.params).In h)
    (hT : ∀ (w : World) (h : Heap), YP w h → h.get? T = some (PySem.W.tabObj #[])) (nT : ∀ w : World, (K w.params).lookup T = none)
    (F : ∀ (w : World) (mg : Str → Option Value) (fa : Addr) (h : Heap), (K w.params).In h → h.Ns mainGlobals mg → mg d.name = some (.ref fa) →
      (∃ c, PySem.W.codeHdIn (K w.params) c T = true) ∧ ∃ fd : FuncData, (∀ (s : Shared) (u : Value), BindsTo s fd ⟨[u], []⟩ [(x, u)]) ∧ ∀ base : Heap, (K w.params).In base → base.Ns mainGlobals mg → (∀ c, PySem.W.codeHdIn (K w.params) c T = true → LamX.TabB base mg c T) → FnG l.prog w (K w.params) mg base CX0 k fa fd [x] (sp w))
    (hsp : ∀ (w : World) (H : Hp) (a : Addr) (ns : List Int), ns.length ≤ n → H T = some (.tbl #[]) → SqL (K w.params) H a (ns.map V.int) → sp w [.ref a] H (fun v _ => v = .bl true) fun _ _ _ => False) :
    PySem.W.WalkO q loose XP YP l.row.toRowW d [] (fun f vs => PySem.call f vs) :=
  Att.attach_call hn hdf fun w s₀ s₁ mg mb fa o pm cd doc a vs ns G Y ho hdd hcd hmg hobj hints hlen hg => by
    obtain ⟨⟨c, hc⟩, fd, hb, hF⟩ := F w mg fa _ (hY w _ Y) G.T.g hmg
    exact law_callTG (hY w _ Y) G.T.g G.T.b G.T.builtins G.T.nolimit hg (hT w _ Y) (nT w) hc G.T.bmain hobj hints (Nat.le_trans hlen hn2) hr hF hb fun H hH hS => hsp w H a ns hlen hH hS
/-! ### a lambda called where its error is caught -/
open LamX in
theorem takes_lam {X : Cx} {A : Around} {outer : List Env} {s : Shared} {H : Hp} {E : XK} {scope : Scope} {f c' : Addr} : Takes (lamCx X A outer s H E scope f c') (fun cls d _ H' => E cls d H') := takes_of rfl rfl rfl rfl
/-- a state has a slot for each name -/
theorem takes_len {X : Cx} {W : WX} (tk : Takes X W) : Takes X (fun cls d σ H => σ.length = X.N.length → W cls d σ H) := fun u s' ⟨a, B, sI, pins, σ, H, cls, d, e, I, nb, up, sky, na, os, ag, w⟩ =>
  tk u s' ⟨a, B, sI, pins, σ, H, cls, d, e, I, nb, up, sky, na, os, ag, w I.len⟩
end WK
namespace Q
open PySem PySem.Spec PyProof.Rows L2 WL WM WO WG WX WE WT WK
def top (i : Nat) : Stmt := PySem.Challenge.pw_whatspeed_k01_numbers_of_any_value.main.body.getD i (.Pass ⟨0, 0, 0, 0⟩)
abbrev PP : Program := PySem.Challenge.pw_whatspeed_k01_numbers_of_any_value
abbrev s_BadNumber_init : Stmt := inClass (top 3) 0
abbrev s_is_integer : Stmt := top 7
abbrev N_is_integer : List Str := ["value"]
theorem sc_is_integer : FnScope ["value"] ["value"] (defScope s_is_integer) := ⟨rfl, rfl, rfl, by decide +kernel, rfl, by decide +kernel, by decide +kernel⟩
abbrev s_shared_divisor : Stmt := top 9
abbrev N_shared_divisor : List Str := ["one", "other"]
theorem sc_shared_divisor : FnScope ["one", "other"] ["one", "other"] (defScope s_shared_divisor) := ⟨rfl, rfl, rfl, by decide +kernel, rfl, by decide +kernel, by decide +kernel⟩
abbrev s_Number_init : Stmt := inClass (top 10) 0
abbrev N_Number_init : List Str := ["self", "top", "bottom", "shared"]
theorem sc_Number_init : FnScope ["self", "top", "bottom", "shared"] ["self", "top", "bottom"] (defScope s_Number_init) := ⟨rfl, rfl, rfl, by decide +kernel, rfl, by decide +kernel, by decide +kernel⟩
abbrev s_Number_top : Stmt := inClass (top 10) 1
abbrev N_Number_top : List Str := ["self"]
theorem sc_Number_top : FnScope ["self"] ["self"] (defScope s_Number_top) := ⟨rfl, rfl, rfl, by decide +kernel, rfl, by decide +kernel, by decide +kernel⟩
abbrev s_Number_bottom : Stmt := inClass (top 10) 2
abbrev N_Number_bottom : List Str := ["self"]
theorem sc_Number_bottom : FnScope ["self"] ["self"] (defScope s_Number_bottom) := ⟨rfl, rfl, rfl, by decide +kernel, rfl, by decide +kernel, by decide +kernel⟩
abbrev s_law_pot : Stmt := top 12
abbrev N_law_pot : List Str := ["script", "k", "cell", "own"]
theorem sc_law_pot : FnScope ["script", "k", "cell", "own"] ["script", "k"] (defScope s_law_pot) := ⟨rfl, rfl, rfl, by decide +kernel, rfl, by decide +kernel, by decide +kernel⟩
abbrev s_law_take : Stmt := top 13
abbrev N_law_take : List Str := ["pot", "upto", "digit", "prime", "mixed"]
theorem sc_law_take : FnScope ["pot", "upto", "digit", "prime", "mixed"] ["pot", "upto"] (defScope s_law_take) := ⟨rfl, rfl, rfl, by decide +kernel, rfl, by decide +kernel, by decide +kernel⟩
abbrev s_law_of : Stmt := top 14
abbrev N_law_of : List Str := ["pot", "some"]
theorem sc_law_of : FnScope ["pot", "some"] ["pot", "some"] (defScope s_law_of) := ⟨rfl, rfl, rfl, by decide +kernel, rfl, by decide +kernel, by decide +kernel⟩
abbrev s_law_least : Stmt := top 15
abbrev N_law_least : List Str := ["above", "below", "one", "other", "sign"]
theorem sc_law_least : FnScope ["above", "below", "one", "other", "sign"] ["above", "below"] (defScope s_law_least) := ⟨rfl, rfl, rfl, by decide +kernel, rfl, by decide +kernel, by decide +kernel⟩
abbrev s_law_any : Stmt := top 16
abbrev N_law_any : List Str := ["pot", "found", "turn"]
theorem sc_law_any : FnScope ["pot", "found", "turn"] ["pot"] (defScope s_law_any) := ⟨rfl, rfl, rfl, by decide +kernel, rfl, by decide +kernel, by decide +kernel⟩
abbrev s_law_is_int : Stmt := top 17
abbrev N_law_is_int : List Str := ["value"]
theorem sc_law_is_int : FnScope ["value"] ["value"] (defScope s_law_is_int) := ⟨rfl, rfl, rfl, by decide +kernel, rfl, by decide +kernel, by decide +kernel⟩
abbrev s_law_heard : Stmt := top 18
abbrev N_law_heard : List Str := ["ask", "caught", "told", "e"]
theorem sc_law_heard : FnScope ["ask", "caught", "told", "e"] ["ask"] (defScope s_law_heard) := ⟨rfl, rfl, rfl, by decide +kernel, rfl, by decide +kernel, by decide +kernel⟩
abbrev s_law_is_right : Stmt := top 19
abbrev N_law_is_right : List Str := ["above", "below", "is_fine", "due", "told"]
theorem sc_law_is_right : FnScope ["above", "below", "is_fine", "due", "told"] ["above", "below"] (defScope s_law_is_right) := ⟨rfl, rfl, rfl, by decide +kernel, rfl, by decide +kernel, by decide +kernel⟩
abbrev s_law : Stmt := top 20
abbrev N_law : List Str := ["script", "k", "pot", "turn"]
theorem sc_law : FnScope ["script", "k", "pot", "turn"] ["script"] (defScope s_law) := ⟨rfl, rfl, rfl, by decide +kernel, rfl, by decide +kernel, by decide +kernel⟩
structure Ad where
  c_SpeedError : Addr
  c_BadNumber : Addr
  c_BadStretch : Addr
  c_BadText : Addr
  c_Number : Addr
  f_BadNumber_init : Addr
  d_BadNumber_init : FuncData
  f_is_integer : Addr
  d_is_integer : FuncData
  f_shared_divisor : Addr
  d_shared_divisor : FuncData
  f_Number_init : Addr
  d_Number_init : FuncData
  f_Number_top : Addr
  d_Number_top : FuncData
  p_Number_top : Addr
  f_Number_bottom : Addr
  d_Number_bottom : FuncData
  p_Number_bottom : Addr
  f_law_pot : Addr
  d_law_pot : FuncData
  f_law_take : Addr
  d_law_take : FuncData
  f_law_of : Addr
  d_law_of : FuncData
  f_law_least : Addr
  d_law_least : FuncData
  f_law_any : Addr
  d_law_any : FuncData
  f_law_is_int : Addr
  d_law_is_int : FuncData
  f_law_heard : Addr
  d_law_heard : FuncData
  f_law_is_right : Addr
  d_law_is_right : FuncData
  f_law : Addr
  d_law : FuncData
structure Txt (K : PySem.W.Frag) (mg : Str → Option Value) (A : Ad) : Prop where
  g_SpeedError : mg "SpeedError" = some (.ref A.c_SpeedError)
  g_BadNumber : mg "BadNumber" = some (.ref A.c_BadNumber)
  g_BadStretch : mg "BadStretch" = some (.ref A.c_BadStretch)
  g_BadText : mg "BadText" = some (.ref A.c_BadText)
  g_Number : mg "Number" = some (.ref A.c_Number)
  cl_Number : Cls K A.c_Number
  M_Number : Mk K A.c_Number A.f_Number_init
  sf_Number : PySem.W.selfFirst K A.c_Number = true
  ca_Number : PySem.W.findIn K (.ref A.c_Number) "__class__" = some (some (.builtin "object.__class__"))
  cm_Number : PySem.W.mroIn K A.c_Number (.type "object") = some true
  n_Number_own_top : NoAttr K A.c_Number "own_top"
  n_Number_own_bottom : NoAttr K A.c_Number "own_bottom"
  cn : PySem.W.specialIn K (.builtin "object.__class__") "__get__" = some (some (.builtin "getset_descriptor.__get__"))
  ct : PySem.W.takesIn K (.builtin "object.__class__") = some true
  X_BadNumber : OexC K A.c_BadNumber
  C_BadNumber : CauC K A.c_BadNumber
  no_BadNumber : PySem.W.findIn K (.ref A.c_BadNumber) "value" = some none
  in_BadNumber : PySem.W.findIn K (.ref A.c_BadNumber) "__init__" = some (some (.ref A.f_BadNumber_init))
  ti_BadNumber : PySem.W.typeIn K (.ref A.f_BadNumber_init) = some (.type "function")
  b_BadNumber_init : Binds K A.d_BadNumber_init ["self", "value"] []
  I_BadNumber : ∀ (w : World) (base : Heap), FnOk PP w K mg base CX0 1 A.f_BadNumber_init A.d_BadNumber_init ["self", "value"] (spExI A.c_BadNumber "value")
  em_BadNumber_SpeedError : PySem.W.exmOne K (.ref A.c_BadNumber) (.ref A.c_SpeedError) = some true
  g_is_integer : mg "is_integer" = some (.ref A.f_is_integer)
  F_is_integer : Fun K "is_integer" "is_integer" s_is_integer A.f_is_integer A.d_is_integer
  b_is_integer : Binds K A.d_is_integer ["value"] []
  g_shared_divisor : mg "shared_divisor" = some (.ref A.f_shared_divisor)
  F_shared_divisor : Fun K "shared_divisor" "shared_divisor" s_shared_divisor A.f_shared_divisor A.d_shared_divisor
  b_shared_divisor : Binds K A.d_shared_divisor ["one", "other"] []
  m_Number_init : Meth K A.c_Number "__init__" A.f_Number_init
  F_Number_init : FunD K "__init__" "Number.__init__" (defArgs s_Number_init) (defBody s_Number_init) (defScope s_Number_init) [.int 1] [] A.f_Number_init A.d_Number_init
  P_Number_top : PropOf K A.c_Number "top" A.p_Number_top A.f_Number_top
  F_Number_top : Fun K "top" "Number.top" s_Number_top A.f_Number_top A.d_Number_top
  b_Number_top : Binds K A.d_Number_top ["self"] []
  P_Number_bottom : PropOf K A.c_Number "bottom" A.p_Number_bottom A.f_Number_bottom
  F_Number_bottom : Fun K "bottom" "Number.bottom" s_Number_bottom A.f_Number_bottom A.d_Number_bottom
  b_Number_bottom : Binds K A.d_Number_bottom ["self"] []
  g_law_pot : mg "_law_pot" = some (.ref A.f_law_pot)
  F_law_pot : Fun K "_law_pot" "_law_pot" s_law_pot A.f_law_pot A.d_law_pot
  b_law_pot : Binds K A.d_law_pot ["script", "k"] []
  g_law_take : mg "_law_take" = some (.ref A.f_law_take)
  F_law_take : Fun K "_law_take" "_law_take" s_law_take A.f_law_take A.d_law_take
  b_law_take : Binds K A.d_law_take ["pot", "upto"] []
  g_law_of : mg "_law_of" = some (.ref A.f_law_of)
  F_law_of : Fun K "_law_of" "_law_of" s_law_of A.f_law_of A.d_law_of
  b_law_of : Binds K A.d_law_of ["pot", "some"] []
  g_law_least : mg "_law_least" = some (.ref A.f_law_least)
  F_law_least : Fun K "_law_least" "_law_least" s_law_least A.f_law_least A.d_law_least
  b_law_least : Binds K A.d_law_least ["above", "below"] []
  g_law_any : mg "_law_any" = some (.ref A.f_law_any)
  F_law_any : Fun K "_law_any" "_law_any" s_law_any A.f_law_any A.d_law_any
  b_law_any : Binds K A.d_law_any ["pot"] []
  g_law_is_int : mg "_law_is_int" = some (.ref A.f_law_is_int)
  F_law_is_int : Fun K "_law_is_int" "_law_is_int" s_law_is_int A.f_law_is_int A.d_law_is_int
  b_law_is_int : Binds K A.d_law_is_int ["value"] []
  g_law_heard : mg "_law_heard" = some (.ref A.f_law_heard)
  F_law_heard : Fun K "_law_heard" "_law_heard" s_law_heard A.f_law_heard A.d_law_heard
  b_law_heard : Binds K A.d_law_heard ["ask"] []
  g_law_is_right : mg "_law_is_right" = some (.ref A.f_law_is_right)
  lam_law_is_right : ∃ (oc : Value) (od : Option Addr) (kV doc pm : Value) (an : Option Addr) (c : Addr) (ct : Value) (osl : Array (Option Value)), A.d_law_is_right = PySem.W.fnOf "_law_is_right" "_law_is_right" (defArgs s_law_is_right) (defBody s_law_is_right) (defScope s_law_is_right) .none kV doc pm an (.ref c) ct ∧ K.lookup A.f_law_is_right = some ⟨oc, od, .func A.d_law_is_right, osl⟩ ∧ PySem.W.codeIn K (.ref c) "_law_is_right" = true ∧ PySem.W.codeHdIn K c 263 = true
  F_law_is_right : Fun K "_law_is_right" "_law_is_right" s_law_is_right A.f_law_is_right A.d_law_is_right
  b_law_is_right : Binds K A.d_law_is_right ["above", "below"] []
  F_law : Fun K "law" "law" s_law A.f_law A.d_law
  b_law : Binds K A.d_law ["script"] []
  z_isinstance : mg "isinstance" = none
  z_int : mg "int" = none
  z_bool : mg "bool" = none
  z_abs : mg "abs" = none
  z_len : mg "len" = none
  z_max : mg "max" = none
  z_min : mg "min" = none
  z_range : mg "range" = none
  z_repr : mg "repr" = none
  z_ValueError : mg "ValueError" = none
  kit_BB : PySem.W.kitOne K (.ref A.c_BadNumber) (.ref A.c_BadNumber) = some true
  kit_BV : PySem.W.kitOne K (.ref A.c_BadNumber) (.type "ValueError") = some true
  kit_BS : PySem.W.kitOne K (.ref A.c_BadNumber) (.ref A.c_BadStretch) = some false
  kit_BT : PySem.W.kitOne K (.ref A.c_BadNumber) (.ref A.c_BadText) = some false
section
variable {P : Program} {w : World} {K : PySem.W.Frag} {mg : Str → Option Value} {base : Heap} {A : Ad}
/-- an int is an integer -/
def spIsInt : Sp := fun vs H Q _ => ∃ i : Int, vs = [.int i] ∧ Q (.bl true) H
theorem ok_is_integer (T : Txt K mg A) : FnOk P w K mg base CX0 1 A.f_is_integer A.d_is_integer ["value"] spIsInt := by
  refine T.F_is_integer.ok sc_is_integer (fun vs H Q E h => ?_) (fun cdv B outer s H vs Q E hr h => ?_)
  · obtain ⟨i, rfl, _⟩ := h
    rfl
  · obtain ⟨i, rfl, k⟩ := h
    refine ⟨_, pss_one (ps_ret (pe_and (pe_callB call_isi (by rfl) T.z_isinstance (by decide +kernel) (pa_cons (pv 0) (pa_cons (pe_bltn (v := .ty "int") (by rfl) T.z_int (by decide +kernel) rfl) pa_nil)))
      (pe_one (pe_not (pe_callB call_isi (by rfl) T.z_isinstance (by decide +kernel) (pa_cons (pv 0) (pa_cons (pe_bltn (v := .ty "bool") (by rfl) T.z_bool (by decide +kernel) rfl) pa_nil))))))), ?_⟩
    refine ⟨_, rfl, _, _, _, _, true, rfl, .ty "int", .base (.int i), kit_ty (by decide +kernel), true, rfl, ?_⟩
    refine iteT ?_
    refine ⟨_, rfl, _, _, _, _, false, rfl, .ty "bool", .base (.int i), kit_ty (by decide +kernel), false, rfl, ?_⟩
    exact k
end
section
variable {P : Program} {w : World} {K : PySem.W.Frag} {mg : Str → Option Value} {base : Heap} {A : Ad}
def spGcd : Sp := fun vs H Q _ => ∃ a b : Nat, vs = [.int a, .int b] ∧ Q (.int (Nat.gcd a b : Nat)) H
def natAt (σ : L2.St) (i : Nat) : Nat := match σ[i]? with
  | some (some (.int k)) => k.toNat
  | _ => 0
theorem ok_shared_divisor (T : Txt K mg A) : FnOk P w K mg base CX0 1 A.f_shared_divisor A.d_shared_divisor ["one", "other"] spGcd := by
  refine T.F_shared_divisor.ok sc_shared_divisor (fun vs H Q E h => ?_) (fun cdv B outer s H vs Q E hr h => ?_)
  · obtain ⟨a, b, rfl, _⟩ := h
    rfl
  · obtain ⟨a, b, rfl, k⟩ := h
    refine ⟨_, pss_cons (ps_while PassesOwn.never (pt_cmpR op_ne (pv 1) pe_int (nomark _))
      (pss_one (ps_par (i := 0) (j := 1) rfl sc_shared_divisor.nd rfl rfl (by decide) rfl rfl (pa_cons (pv 1) (pa_cons (pe_op op_mod (pv 0) (pv 1)) pa_nil)) (by rfl))))
      (pss_one (ps_ret (pv 0))), ?_⟩
    refine while_by (fun σ H' => ∃ c d : Nat, σ = [some (.int c), some (.int d)] ∧ Nat.gcd c d = Nat.gcd a b ∧ H' = H) (fun σ _ => natAt σ 1) ⟨a, b, rfl, rfl, rfl⟩ ?_ ?_
    · rintro σ H' ⟨c, d, rfl, hg, rfl⟩
      refine ⟨_, rfl, rfl, _, rfl, ?_⟩
      by_cases hd : d = 0
      · subst hd
        refine iteF ?_
        rw [Nat.gcd_zero_right] at hg
        refine ⟨_, rfl, ?_⟩
        rw [hg]
        exact k
      · have hne : (!decide (V.int (d : Int) = V.int 0)) = true := by
          have : ¬ (V.int (d : Int) = V.int 0) := fun e => hd (by injection e with e; omega)
          rw [decide_eq_false this]
          rfl
        rw [hne]
        refine iteT ?_
        refine ⟨_, rfl, _, rfl, _, rfl, _, _, rfl, rfl, (by show (0 : Int) < d; omega), _, _, rfl, ⟨d, c % d, ?_, ?_, rfl⟩, ?_⟩
        · rfl
        · rw [← hg, Nat.gcd_comm c d, Nat.gcd_rec d c, Nat.gcd_comm]
        · show ((c : Int) % (d : Int)).toNat < (d : Int).toNat
          have := Int.emod_lt_of_pos (c : Int) (show (0 : Int) < d by omega)
          have := Int.emod_nonneg (c : Int) (show (d : Int) ≠ 0 by omega)
          omega
    · intro σ H Q Q' m h
      obtain ⟨v, e, q⟩ := h
      obtain ⟨z, b, e2, q2⟩ := q
      exact ⟨v, e, z, b, e2, m _ _ q2⟩
end
/-! ### Number -/
def nf (q : Rat) : List (Str × V) := [("own_top", .int q.num), ("own_bottom", .int (q.den : Int))]
def Num (C : Addr) (H : Hp) (a : Addr) (q : Rat) : Prop := ∃ dx, H a = some (.ins C dx (nf q))
theorem Num.mono {C : Addr} {H H' : Hp} {a : Addr} {q : Rat} (h : Num C H a q) (s : Same H H') : Num C H' a q := by
  obtain ⟨dx, e⟩ := h
  exact ⟨dx, s _ _ e⟩
theorem nf_put (q : Rat) : putF "own_bottom" (.int (q.den : Int)) (putF "own_top" (.int q.num) []) = nf q := by
  show (if ("own_top" : Str) = "own_bottom" then [(("own_bottom" : Str), V.int (q.den : Int))] else (("own_top" : Str), V.int q.num) :: putF "own_bottom" (.int (q.den : Int)) []) = nf q
  rw [if_neg (by decide +kernel)]
  rfl
theorem nf_top (q : Rat) : (nf q).lookup ("own_top" : Str) = some (.int q.num) := by simp [nf, List.lookup]
theorem nf_bot (q : Rat) : (nf q).lookup ("own_bottom" : Str) = some (.int (q.den : Int)) := by
  have : (("own_bottom" : Str) == ("own_top" : Str)) = false := by decide +kernel
  simp [nf, List.lookup, this]
theorem nf_no (q : Rat) {m : Str} (h1 : (m == ("own_top" : Str)) = false) (h2 : (m == ("own_bottom" : Str)) = false) : (nf q).lookup m = none := by simp [nf, List.lookup, h1, h2]
/-- a new instance and its dict, then its fields -/
theorem same_made {C : Addr} {H : Hp} {x dx : Addr} {fs gs : List (Str × V)} (nx : H x = none) (ndx : H dx = none) : Same H (upd (upd (upd H dx (.own x)) x (.ins C dx fs)) x (.ins C dx gs)) := fun b o e => by
  rw [upd_upd, upd_ne (ne_of_none e nx), upd_ne (ne_of_none e ndx)]
  exact e
theorem same_new {H : Hp} {x : Addr} {o : HO} (nx : H x = none) : Same H (upd H x o) := fun b u e => by
  rw [upd_ne (ne_of_none e nx)]
  exact e
theorem abs_nat (t : Int) : (if t < 0 then -t else t) = (t.natAbs : Int) := by split <;> omega
theorem dint_ne {b c : Int} (h : b ≠ c) : decide (V.int b = V.int c) = false := decide_eq_false fun e => h (by injection e)
theorem dint_eq {b c : Int} (h : b = c) : decide (V.int b = V.int c) = true := decide_eq_true (by rw [h])
section
variable {P : Program} {w : World} {K : PySem.W.Frag} {mg : Str → Option Value} {base : Heap} {A : Ad}
def spNumI (C : Addr) : Sp := fun vs H Q _ => ∃ (p dx : Addr) (t b : Int), vs = [.ref p, .int t, .int b] ∧ b ≠ 0 ∧ b.natAbs < 2 ^ 9000 ∧ H p = some (.ins C dx []) ∧ Q .non (upd H p (.ins C dx (nf (Rat.divInt t b))))
theorem ok_Number_init (T : Txt K mg A) : FnOk P w K mg base CX0 2 A.f_Number_init A.d_Number_init ["self", "top", "bottom"] (spNumI A.c_Number) := by
  refine T.F_Number_init.ok sc_Number_init (fun vs H Q E h => ?_) (fun cdv B outer s H vs Q E hr h => ?_)
  · obtain ⟨p, dx, t, b, rfl, _⟩ := h
    rfl
  · obtain ⟨p, dx, t, b, rfl, hb, hbd, hp, k⟩ := h
    refine ⟨_, pss_cons (ps_if (PW.pt (pw_or (pt_not (pt_val (pe_call (ok_is_integer T) hr rfl T.g_is_integer T.F_is_integer.kp T.b_is_integer .nil pass0 (pa_cons (pv 1) pa_nil))))
        (pw_or (pt_not (pt_val (pe_call (ok_is_integer T) hr rfl T.g_is_integer T.F_is_integer.kp T.b_is_integer .nil pass0 (pa_cons (pv 2) pa_nil))))
        (pw_or1 (pt_cmpR op_eq (pv 2) pe_int (nomark _)))))) pss_never pss_nil)
      (pss_cons (ps_set (i := 3) sc_Number_init.nd rfl (Or.inl rfl) (pe_call (ok_shared_divisor T) hr rfl T.g_shared_divisor T.F_shared_divisor.kp T.b_shared_divisor .nil pass0
        (pa_cons (pe_callB call_abs (by rfl) T.z_abs (by decide +kernel) (pa_cons (pv 1) pa_nil)) (pa_cons (pe_callB call_abs (by rfl) T.z_abs (by decide +kernel) (pa_cons (pv 2) pa_nil)) pa_nil))))
      (pss_cons (ps_if (pt_cmpR op_lt (pv 2) pe_int (nomark _)) (pss_one (ps_set (i := 3) sc_Number_init.nd rfl (Or.inl rfl) (pe_un un_neg (pv 3)))) pss_nil)
      (pss_cons (ps_fld (pv 0) (pe_op op_fdivG (pv 1) (pv 3)) rfl)
      (pss_one (ps_fld (pv 0) (pe_op op_fdivG (pv 2) (pv 3)) rfl))))), ?_⟩
    refine ⟨_, rfl, t, rfl, true, rfl, ?_⟩
    refine iteF ?_
    refine ⟨_, rfl, b, rfl, true, rfl, ?_⟩
    refine iteF ?_
    refine ⟨_, rfl, rfl, _, rfl, ?_⟩
    rw [dint_ne hb]
    refine iteF ?_
    refine ⟨_, rfl, t, rfl, _, rfl, b, rfl, t.natAbs, b.natAbs, by rw [abs_nat, abs_nat]; rfl, ?_⟩
    have hg0 : 0 < Nat.gcd t.natAbs b.natAbs := gcd_ne hb rfl
    have hgl : Nat.gcd t.natAbs b.natAbs ≤ b.natAbs := gcd_le hb rfl
    have hn : ∀ s : Int, s = (if b < 0 then -((Nat.gcd t.natAbs b.natAbs : Nat) : Int) else ((Nat.gcd t.natAbs b.natAbs : Nat) : Int)) → CDivG t s ∧ CDivG b s ∧ t.fdiv s = (Rat.divInt t b).num ∧ b.fdiv s = ((Rat.divInt t b).den : Int) := fun s e => by
      have h1 : s ≠ 0 := by rw [e]; split <;> omega
      have h2 : s.natAbs = Nat.gcd t.natAbs b.natAbs := by rw [e]; split <;> omega
      have h3 : s.natAbs.log2 < 9000 := log2_lt (by decide) (by rw [h2]; exact Nat.lt_of_le_of_lt hgl hbd)
      exact ⟨⟨h1, h3⟩, ⟨h1, h3⟩, by rw [e]; exact make_num hb rfl, by rw [e]; exact make_den hb rfl⟩
    refine ⟨_, rfl, _, _, rfl, rfl, _, rfl, ?_⟩
    have fin : ∀ s : Int, s = (if b < 0 then -((Nat.gcd t.natAbs b.natAbs : Nat) : Int) else ((Nat.gcd t.natAbs b.natAbs : Nat) : Int)) →
        (tSeq (sFld K (tVar 0) (tOp (rI CDivG fun i j => .int (i.fdiv j)) (tVar 1) (tVar 3)) "own_top") (sFld K (tVar 0) (tOp (rI CDivG fun i j => .int (i.fdiv j)) (tVar 2) (tVar 3)) "own_bottom")) { nx := fun _ H' => Q .non H', rt := Q }
          [some (.ref p), some (.int t), some (.int b), some (.int s)] H := fun s e => by
      obtain ⟨c1, c2, e1, e2⟩ := hn s e
      refine ⟨_, rfl, _, rfl, _, _, rfl, rfl, c1, _, rfl, p, A.c_Number, dx, [], rfl, hp, T.cl_Number, T.n_Number_own_top, (by decide), ?_⟩
      refine ⟨_, rfl, _, rfl, _, _, rfl, rfl, c2, _, rfl, p, A.c_Number, dx, _, rfl, upd_same, T.cl_Number, T.n_Number_own_bottom, (by show 1 < 1000; decide), ?_⟩
      dsimp only
      rw [upd_upd, e1, e2, nf_put]
      exact k
    refine ite2 (fun hlt => ?_) (fun hlt => ?_)
    · refine ⟨_, rfl, _, rfl, ?_⟩
      exact fin _ (by rw [if_pos (of_decide_eq_true hlt)])
    · exact fin _ (by rw [if_neg fun z => hlt (decide_eq_true z)])
/-- Number(t, b), both written -/
theorem b_Number (T : Txt K mg A) : Binds K A.d_Number_init ["self", "top", "bottom"] [] := by
  obtain ⟨ds, r, b⟩ := T.F_Number_init.binds1 (ps := ["self", "top", "bottom"]) 3 1 (by simp) rfl (fun T' kV dc pm an cd ct us its hu hi => by
    match us, hu, its, hi with
    | [u1, u2, u3], _, [i1], _ => exact ⟨_, rfl, rfl⟩)
  cases r
  exact b
end
/-! ### Number's methods -/
/-- Number(t, b) gives a new number -/
theorem made_num {C : Addr} {H : Hp} {x dx : Addr} (q : Rat) (nx : H x = none) (ndx : H dx = none) :
    Same H (upd (upd (upd H dx (.own x)) x (.ins C dx [])) x (.ins C dx (nf q))) ∧ Num C (upd (upd (upd H dx (.own x)) x (.ins C dx [])) x (.ins C dx (nf q))) x q :=
  ⟨same_made nx ndx, dx, upd_same⟩
section
variable {P : Program} {w : World} {K : PySem.W.Frag} {mg : Str → Option Value} {base : Heap} {A : Ad}
theorem ok_Number_top (T : Txt K mg A) : FnOk P w K mg base CX0 1 A.f_Number_top A.d_Number_top ["self"] (getSp A.c_Number "own_top") := by
  refine T.F_Number_top.ok sc_Number_top (fun vs H Q E h => ?_) (fun cdv B outer s H vs Q E hr h => ?_)
  · obtain ⟨a, dx, fs, v, rfl, _⟩ := h
    rfl
  · obtain ⟨a, dx, fs, v, rfl, e, l, k⟩ := h
    exact ⟨_, pss_one (ps_ret (pe_fld (pv 0) rfl)), _, rfl, a, _, dx, fs, v, rfl, e, T.cl_Number, T.n_Number_own_top, l, k⟩
end
section
variable {P : Program} {w : World} {K : PySem.W.Frag} {mg : Str → Option Value} {base : Heap} {A : Ad}
theorem ok_Number_bottom (T : Txt K mg A) : FnOk P w K mg base CX0 1 A.f_Number_bottom A.d_Number_bottom ["self"] (getSp A.c_Number "own_bottom") := by
  refine T.F_Number_bottom.ok sc_Number_bottom (fun vs H Q E h => ?_) (fun cdv B outer s H vs Q E hr h => ?_)
  · obtain ⟨a, dx, fs, v, rfl, _⟩ := h
    rfl
  · obtain ⟨a, dx, fs, v, rfl, e, l, k⟩ := h
    exact ⟨_, pss_one (ps_ret (pe_fld (pv 0) rfl)), _, rfl, a, _, dx, fs, v, rfl, e, T.cl_Number, T.n_Number_own_bottom, l, k⟩
end
/-! ### draws -/
/-- a pot at p, of which n numbers at most were drawn behind its own digits -/
def Pot (H : Hp) (p : Addr) (n : Nat) : Prop := ∃ own mix c : Int, H p = some (.lst [.int own, .int mix, .int c]) ∧ 0 ≤ own ∧ 0 ≤ mix ∧ mix < 2305843009213693921 ∧ 0 ≤ c ∧ c ≤ n
theorem Pot.mono {H : Hp} {p : Addr} {m n : Nat} (h : Pot H p m) (l : m ≤ n) : Pot H p n := by
  obtain ⟨own, mix, c, e, h1, h2, h3, h4, h5⟩ := h
  exact ⟨own, mix, c, e, h1, h2, h3, h4, by omega⟩
theorem Pot.same {H H' : Hp} {p : Addr} {n : Nat} (h : Pot H p n) (s : Same H H') : Pot H' p n := by
  obtain ⟨own, mix, c, e, h⟩ := h
  exact ⟨own, mix, c, s _ _ e, h⟩
/-- all but what stands at p is as it was -/
def SameBut (p : Addr) (H H' : Hp) : Prop := ∀ b o, H b = some o → b ≠ p → H' b = some o
theorem SameBut.refl (p : Addr) (H : Hp) : SameBut p H H := fun _ _ e _ => e
theorem SameBut.trans {p : Addr} {H H1 H2 : Hp} (a : SameBut p H H1) (b : SameBut p H1 H2) : SameBut p H H2 := fun c o e n => b c o (a c o e n) n
theorem SameBut.same {p : Addr} {H H1 H2 : Hp} (a : SameBut p H H1) (b : Same H1 H2) : SameBut p H H2 := fun c o e n => b c o (a c o e n)
theorem Same.but {H H1 : Hp} (p : Addr) (b : Same H H1) : SameBut p H H1 := fun c o e _ => b c o e
theorem but_upd {p : Addr} {H : Hp} {o : HO} : SameBut p H (upd H p o) := fun c u e n => by rw [upd_ne n]; exact e
theorem Num.but {C p : Addr} {H H' : Hp} {a : Addr} {q : Rat} (h : Num C H a q) (s : SameBut p H H') (hp : ∃ xs, H p = some (.lst xs)) : Num C H' a q := by
  obtain ⟨dx, e⟩ := h
  obtain ⟨xs, ep⟩ := hp
  exact ⟨dx, s _ _ e (ne_of e ep (by intro z; cases z))⟩
theorem tup_but {p a : Addr} {H H' : Hp} {ys : List V} (h : H a = some (.tup ys)) (s : SameBut p H H') (hp : ∃ xs, H p = some (.lst xs)) : H' a = some (.tup ys) := by
  obtain ⟨xs, ep⟩ := hp
  exact s _ _ h (ne_of h ep (by intro z; cases z))
theorem Pot.lst {H : Hp} {p : Addr} {n : Nat} (h : Pot H p n) : ∃ xs, H p = some (.lst xs) := by
  obtain ⟨own, mix, c, e, _⟩ := h
  exact ⟨_, e⟩
theorem prime_at (c : Int) (h : 0 ≤ c) : ∃ q : Int, atI [V.int 2147483647, V.int 2147483629, V.int 2147483587, V.int 2147483579, V.int 2147483563] (c % 5) = some (.int q) ∧ 0 < q ∧ q < 2 ^ 32 := by
  have h1 := Int.emod_nonneg c (show (5 : Int) ≠ 0 by decide)
  have h2 := Int.emod_lt_of_pos c (show (0 : Int) < 5 by decide)
  have h3 : c % 5 = 0 ∨ c % 5 = 1 ∨ c % 5 = 2 ∨ c % 5 = 3 ∨ c % 5 = 4 := by omega
  rcases h3 with e | e | e | e | e <;> rw [e]
  · exact ⟨_, rfl, by decide, by decide⟩
  · exact ⟨_, rfl, by decide, by decide⟩
  · exact ⟨_, rfl, by decide, by decide⟩
  · exact ⟨_, rfl, by decide, by decide⟩
  · exact ⟨_, rfl, by decide, by decide⟩
theorem at_mem {α : Type} {xs : List α} {i : Int} (h0 : 0 ≤ i) (h1 : i < xs.length) : ∃ v, atI xs i = some v ∧ v ∈ xs := by
  have hl : i.toNat < xs.length := by omega
  have e : ((i.toNat : Nat) : Int) = i := by omega
  have h := atI_nat (xs := xs) (j := i.toNat) (v := xs[i.toNat]) (by simp [hl])
  rw [e] at h
  exact ⟨_, h, List.getElem_mem hl⟩
theorem bit_lt (c : Bool) : -(2 ^ 64) < (if c = true then (1 : Int) else 0) ∧ (if c = true then (1 : Int) else 0) < 2 ^ 64 := by cases c <;> decide
theorem bit_nn (c : Bool) : 0 ≤ (if c = true then (1 : Int) else 0) := by cases c <;> decide
/-- the answer is an int, whichever way -/
theorem with_int {Q : VK} {te : TE} {σ : L2.St} {H : Hp} (h : (∀ i : Int, Q (.int i) H) → te σ H Q) (hq : ∀ i : Int, Q (.int i) H) : te σ H Q := h hq
theorem SameBut.free {p x : Addr} {H H' : Hp} (a : SameBut p H H') (hp : ∃ xs, H p = some (.lst xs)) (hq : ∃ xs, H' p = some (.lst xs)) (h : H' x = none) : H x = none := by
  cases e : H x with
  | none => rfl
  | some o =>
    by_cases n : x = p
    · obtain ⟨xs, ex⟩ := hq
      rw [n, ex] at h
      cases h
    · rw [a x o e n] at h
      cases h
section
variable {P : Program} {w : World} {K : PySem.W.Frag} {mg : Str → Option Value} {base : Heap} {A : Ad}
/-- _law_pot(script, k) -/
def spPot (K : PySem.W.Frag) : Sp := fun vs H Q _ => ∃ (a : Addr) (ns : List Int) (k : Int), vs = [.ref a, .int k] ∧ SqL K H a (ns.map V.int) ∧ 0 ≤ k ∧ k ≤ 100 ∧ ∀ p H', Same H H' → H p = none → Pot H' p 0 → Q (.ref p) H'
theorem ok_law_pot (T : Txt K mg A) : FnOk P w K mg base CX0 1 A.f_law_pot A.d_law_pot ["script", "k"] (spPot K) := by
  refine T.F_law_pot.ok sc_law_pot (fun vs H Q E h => ?_) (fun cdv B outer s H vs Q E hr h => ?_)
  · obtain ⟨a, ns, k, rfl, _⟩ := h
    rfl
  · obtain ⟨a, ns, k, rfl, hS, k0, k1, kq⟩ := h
    refine ⟨_, pss_cons (ps_set (i := 2) sc_law_pot.nd rfl (Or.inl rfl) (pe_ifExp (pt_cmpR op_lt (pv 1) (pe_callB call_len_seq (by rfl) T.z_len (by decide +kernel) (pa_cons (pv 0) pa_nil)) (nomark _))
        (pe_callTy call_int1 (by rfl) T.z_int (by decide +kernel) (pa_cons (pe_ix ix_list (pv 0) (pv 1) (fun _ _ => rfl)) pa_nil)) (pe_op op_add (pe_op op_mul pe_int (pv 1)) pe_int)))
      (pss_cons (ps_set (i := 3) sc_law_pot.nd rfl (Or.inl rfl) (pe_op op_mul (pe_op op_mod (pe_callTy call_int1 (by rfl) T.z_int (by decide +kernel) (pa_cons (pe_callB call_abs (by rfl) T.z_abs (by decide +kernel) (pa_cons (pv 2) pa_nil)) pa_nil))
          (pe_op op_powW (pe_op op_powW pe_int pe_int) pe_int)) (pe_callTy call_int1 (by rfl) T.z_int (by decide +kernel) (pa_cons (pe_cmpR op_ge (pe_callB call_abs (by rfl) T.z_abs (by decide +kernel) (pa_cons (pv 2) pa_nil)) (pe_op op_powW pe_int pe_int) (nomark _)) pa_nil))))
      (pss_one (ps_ret (pe_lst (pa_cons (pv 3) (pa_cons (pe_op op_mod (pe_callTy call_int1 (by rfl) T.z_int (by decide +kernel) (pa_cons (pe_op op_add (pe_op op_add (pe_op op_mul (pe_op op_mod (pe_callTy call_int1 (by rfl) T.z_int (by decide +kernel) (pa_cons (pv 2) pa_nil)) pe_int) pe_int)
          (pe_op op_mul (pe_op op_mul pe_int (pv 1)) (pv 1))) pe_int) pa_nil)) pe_int) (pa_cons pe_int pa_nil))))))), ?_⟩
    refine with_int (fun rest => ?_) (fun cell => ?_)
    · refine ⟨_, rfl, _, rfl, a, _, rfl, Or.inl hS, _, _, rfl, rfl, _, rfl, ?_⟩
      refine ite2 (fun e => ?_) (fun e => ?_)
      · have hk := of_decide_eq_true e
        have hk' : k < (ns.map V.int).length := hk
        obtain ⟨v, hv, hm⟩ := at_mem (xs := ns.map V.int) k0 hk'
        obtain ⟨n, _, rfl⟩ := List.mem_map.mp hm
        exact ⟨_, rfl, _, rfl, a, _, _, _, rfl, rfl, hS, hv, Or.inl ⟨n, rfl, rest n⟩⟩
      · exact ⟨_, rfl, _, _, rfl, rfl, Or.inl (by decide), _, _, rfl, rfl, rest _⟩
    · refine ⟨_, rfl, _, rfl, Or.inl ⟨_, rfl, _, _, rfl, rfl, ⟨by decide, by decide⟩, _, _, rfl, rfl, ⟨by decide, by decide +kernel⟩, _, _, rfl, rfl, Int.pow_pos (Int.pow_pos (by decide)), ?_⟩⟩
      refine ⟨_, rfl, _, rfl, _, _, rfl, rfl, ⟨by decide, by decide⟩, _, _, rfl, rfl, Or.inr ⟨_, rfl, _, _, rfl, rfl, Or.inr (bit_lt _), ?_⟩⟩
      refine ⟨_, rfl, _, rfl, Or.inl ⟨_, rfl, _, _, rfl, rfl, (by show (0 : Int) < 2305843009213693951; decide), _, _, rfl, rfl, Or.inr (by decide), _, rfl, _, _, rfl, rfl, Or.inl (by decide), _, rfl, _, _, rfl, rfl, Or.inr ⟨by omega, by omega⟩, _, _, rfl, rfl, _, _, rfl, rfl, Or.inl ⟨_, rfl, _, _, rfl, rfl, (by show (0 : Int) < 2305843009213693921; decide), ?_⟩⟩⟩
      refine ⟨by show 3 ≤ sizeLine; decide, fun p hp => ?_⟩
      refine kq p _ (same_new hp) hp ⟨_, _, _, upd_same, ?_, Int.emod_nonneg _ (by decide), Int.emod_lt_of_pos _ (by decide), Int.le_refl _, by decide⟩
      exact Int.mul_nonneg (Int.emod_nonneg _ (Int.ne_of_gt (Int.pow_pos (Int.pow_pos (by decide))))) (bit_nn _)
end
section
variable {P : Program} {w : World} {K : PySem.W.Frag} {mg : Str → Option Value} {base : Heap} {A : Ad}
/-- _law_take(pot, upto): some number from 0 to upto - 1 -/
def spTake : Sp := fun vs H Q _ => ∃ (p : Addr) (u : Int) (n : Nat), vs = [.ref p, .int u] ∧ 0 < u ∧ u.natAbs < 2 ^ 9000 ∧ Pot H p n ∧ n ≤ 100000 ∧ ∀ r H', 0 ≤ r → r < u → Pot H' p (n + 1) → SameBut p H H' → Q (.int r) H'
theorem ok_law_take (T : Txt K mg A) : FnOk P w K mg base CX0 1 A.f_law_take A.d_law_take ["pot", "upto"] spTake := by
  refine T.F_law_take.ok sc_law_take (fun vs H Q E h => ?_) (fun cdv B outer s H vs Q E hr h => ?_)
  · obtain ⟨p, u, n, rfl, _⟩ := h
    rfl
  · obtain ⟨p, u, n, rfl, u0, u1, ⟨own, mix, c, hp, o0, m0, m1, c0, c1⟩, hn, k⟩ := h
    refine ⟨_, pss_cons (ps_if (pt_cmpR op_gt (pe_ix ix_list (pv 0) pe_int (fun _ _ => rfl)) pe_int (nomark _))
        (pss_cons (ps_set (i := 2) sc_law_take.nd rfl (Or.inl rfl) (pe_op op_mod (pe_callTy call_int1 (by rfl) T.z_int (by decide +kernel) (pa_cons (pe_ix ix_list (pv 0) pe_int (fun _ _ => rfl)) pa_nil)) (pv 1)))
        (pss_cons (ps_asg (pe_op op_fdivG (pe_ix ix_list (pv 0) pe_int (fun _ _ => rfl)) (pv 1)) (pg_sub (pv 0) pe_int set_list))
        (pss_one (ps_ret (pv 2))))) pss_nil)
      (pss_cons (ps_asg (pe_op op_add (pe_ix ix_list (pv 0) pe_int (fun _ _ => rfl)) pe_int) (pg_sub (pv 0) pe_int set_list))
      (pss_cons (ps_set (i := 3) sc_law_take.nd rfl (Or.inl rfl) (pe_ix ix_list (pe_lst (pa_cons pe_int (pa_cons pe_int (pa_cons pe_int (pa_cons pe_int (pa_cons pe_int pa_nil))))))
          (pe_op op_mod (pe_callTy call_int1 (by rfl) T.z_int (by decide +kernel) (pa_cons (pe_ix ix_list (pv 0) pe_int (fun _ _ => rfl)) pa_nil)) pe_int) (fun _ _ => rfl)))
      (pss_cons (ps_set (i := 4) sc_law_take.nd rfl (Or.inl rfl) (pe_op op_mod (pe_callTy call_int1 (by rfl) T.z_int (by decide +kernel) (pa_cons (pe_op op_pow (pe_op op_add (pe_op op_add (pe_ix ix_list (pv 0) pe_int (fun _ _ => rfl))
          (pe_op op_mul (pe_op op_mul pe_int (pe_ix ix_list (pv 0) pe_int (fun _ _ => rfl))) (pe_ix ix_list (pv 0) pe_int (fun _ _ => rfl)))) pe_int) pe_int) pa_nil)) (pv 3)))
      (pss_one (ps_ret (pe_op op_mod (pe_callTy call_int1 (by rfl) T.z_int (by decide +kernel) (pa_cons (pe_op op_fdiv (pe_op op_mul (pv 4) (pe_op op_add (pe_op op_mod (pe_callTy call_int1 (by rfl) T.z_int (by decide +kernel) (pa_cons (pv 4) pa_nil)) pe_int)
          (pe_op op_mul pe_int (pe_ix ix_list (pv 0) pe_int (fun _ _ => rfl))))) pe_int) pa_nil)) (pv 1))))))), ?_⟩
    refine ⟨_, rfl, p, _, _, _, rfl, rfl, SqL.of hp, rfl, _, _, rfl, rfl, _, rfl, ?_⟩
    refine ite2 (fun e => ?_) (fun e => ?_)
    · have ho : 0 < own := of_decide_eq_true e
      refine ⟨_, rfl, p, _, _, _, rfl, rfl, SqL.of hp, rfl, Or.inl ⟨_, rfl, _, rfl, _, _, rfl, rfl, u0, ?_⟩⟩
      refine ⟨_, rfl, p, _, _, _, rfl, rfl, SqL.of hp, rfl, _, rfl, _, _, rfl, rfl, ⟨by omega, log2_lt (by decide) u1⟩, _, rfl, ?_⟩
      refine ⟨p, _, _, 0, rfl, rfl, hp, rfl, _, rfl, ?_⟩
      refine k _ _ (Int.emod_nonneg _ (by omega)) (Int.emod_lt_of_pos _ u0) ⟨_, _, _, upd_same, ?_, m0, m1, c0, by omega⟩ but_upd
      rw [Int.fdiv_eq_ediv_of_nonneg _ (by omega)]
      exact Int.ediv_nonneg o0 (by omega)
    · refine ⟨_, rfl, p, _, _, _, rfl, rfl, SqL.of hp, rfl, _, _, rfl, rfl, _, rfl, p, _, _, 2, rfl, rfl, hp, rfl, ?_⟩
      refine ⟨by show 5 ≤ sizeLine; decide, fun l hl => ?_⟩
      have npl : p ≠ l := ne_of_none upd_same hl
      have hp1 : ∀ {o : HO}, (upd (upd H p (.lst [.int own, .int mix, .int (c + 1)])) l o) p = some (.lst [.int own, .int mix, .int (c + 1)]) := by
        intro o
        rw [upd_ne npl]
        exact upd_same
      obtain ⟨pr, e1, e2, e3⟩ := prime_at (c + 1) (by omega)
      refine ⟨_, rfl, p, _, _, _, rfl, rfl, SqL.of hp1, rfl, Or.inl ⟨_, rfl, _, _, rfl, rfl, (by show (0 : Int) < 5; decide), l, _, _, _, rfl, rfl, SqL.of upd_same, e1, ?_⟩⟩
      have hc : (c + 1) * (c + 1) ≤ 100001 * 100001 := Int.mul_le_mul (by omega) (by omega) (by omega) (by decide)
      have hc' : 0 ≤ (c + 1) * (c + 1) := Int.mul_nonneg (by omega) (by omega)
      have hcc : 99961 * (c + 1) * (c + 1) = 99961 * ((c + 1) * (c + 1)) := Int.mul_assoc _ _ _
      refine ⟨_, rfl, p, _, _, _, rfl, rfl, SqL.of hp1, rfl, _, rfl, p, _, _, _, rfl, rfl, SqL.of hp1, rfl, _, _, rfl, rfl, Or.inl (by decide), _, rfl, p, _, _, _, rfl, rfl, SqL.of hp1, rfl, _, _, rfl, rfl, Or.inr ⟨by omega, by omega⟩, _, _, rfl, rfl, _, _, rfl, rfl,
        _, _, rfl, rfl, ⟨by decide, by decide, by omega⟩, Or.inl ⟨_, rfl, _, rfl, _, _, rfl, rfl, e2, ?_⟩⟩
      have n0 := Int.emod_nonneg (((mix + 99961 * (c + 1) * (c + 1) + 47) ^ (3 : Int).toNat)) (show pr ≠ 0 by omega)
      have n1 := Int.emod_lt_of_pos (((mix + 99961 * (c + 1) * (c + 1) + 47) ^ (3 : Int).toNat)) e2
      refine ⟨_, rfl, _, rfl, Or.inl ⟨_, rfl, _, _, rfl, rfl, (by show (0 : Int) < 10009; decide), _, rfl, p, _, _, _, rfl, rfl, SqL.of hp1, rfl, _, _, rfl, rfl, Or.inl (by decide), _, _, rfl, rfl, _, _, rfl, rfl, Or.inl ⟨by omega, by omega⟩, _, _, rfl, rfl, ⟨by decide, by decide⟩,
        Or.inl ⟨_, rfl, _, rfl, _, _, rfl, rfl, u0, ?_⟩⟩⟩
      refine k _ _ (Int.emod_nonneg _ (by omega)) (Int.emod_lt_of_pos _ u0) ⟨_, _, _, hp1, o0, m0, m1, by omega, by omega⟩ fun b o eb nb => ?_
      have hb2 : (upd H p (.lst [.int own, .int mix, .int (c + 1)])) b = some o := by rw [upd_ne nb]; exact eb
      rw [upd_ne (ne_of_none hb2 hl)]
      exact hb2
end
section
variable {P : Program} {w : World} {K : PySem.W.Frag} {mg : Str → Option Value} {base : Heap} {A : Ad}
/-- _law_of(pot, some): one of a list's items -/
def spOf : Sp := fun vs H Q _ => ∃ (p l : Addr) (xs : List V) (n : Nat), vs = [.ref p, .ref l] ∧ H l = some (.lst xs) ∧ l ≠ p ∧ xs ≠ [] ∧ xs.length ≤ 1000 ∧ Pot H p n ∧ n ≤ 100000 ∧ ∀ v H', v ∈ xs → Pot H' p (n + 1) → SameBut p H H' → Q v H'
theorem ok_law_of (T : Txt K mg A) : FnOk P w K mg base CX0 2 A.f_law_of A.d_law_of ["pot", "some"] spOf := by
  refine T.F_law_of.ok sc_law_of (fun vs H Q E h => ?_) (fun cdv B outer s H vs Q E hr h => ?_)
  · obtain ⟨p, l, xs, n, rfl, _⟩ := h
    rfl
  · obtain ⟨p, l, xs, n, rfl, hl, nlp, ne, hlen, hP, hn, k⟩ := h
    refine ⟨_, pss_one (ps_ret (pe_ix ix_list (pv 1) (pe_call (ok_law_take T) hr rfl T.g_law_take T.F_law_take.kp T.b_law_take .nil pass0 (pa_cons (pv 0) (pa_cons (pe_callB call_len_seq (by rfl) T.z_len (by decide +kernel) (pa_cons (pv 1) pa_nil)) pa_nil))) (fun _ _ => rfl))), ?_⟩
    have h0 : 0 < xs.length := List.length_pos_iff.mpr ne
    refine ⟨_, rfl, _, rfl, _, rfl, l, _, rfl, Or.inl (SqL.of hl), p, _, n, rfl, (by omega), ?_, hP, hn, fun r H' r0 r1 hP' sb => ?_⟩
    · have : ((xs.length : Int)).natAbs < 2 ^ 10 := by omega
      exact up_lt this (by decide)
    · obtain ⟨v, hv, hm⟩ := at_mem r0 r1
      exact ⟨l, _, _, _, rfl, rfl, SqL.of (sb _ _ hl nlp), hv, k v H' hm hP' sb⟩
end
/-! ### the law's own fractions -/
/-- a pair of ints at r -/
structure Pr (H : Hp) (r : Addr) (t b : Int) (n : Nat) : Prop where
  at_ : H r = some (.tup [.int t, .int b])
  lt : t.natAbs < 2 ^ n
  pos : 0 < b
  lb : b.natAbs < 2 ^ n
theorem Pr.but {p r : Addr} {H H' : Hp} {t b : Int} {n : Nat} (h : Pr H r t b n) (s : SameBut p H H') (hp : ∃ xs, H p = some (.lst xs)) : Pr H' r t b n := ⟨tup_but h.at_ s hp, h.lt, h.pos, h.lb⟩
theorem Pr.same {r : Addr} {H H' : Hp} {t b : Int} {n : Nat} (h : Pr H r t b n) (s : Same H H') : Pr H' r t b n := ⟨s _ _ h.at_, h.lt, h.pos, h.lb⟩
theorem Pr.bd {r : Addr} {H : Hp} {t b : Int} {n : Nat} (h : Pr H r t b n) : Bd n (Rat.divInt t b) := Bd.mk' (Int.ne_of_gt h.pos) h.lt h.lb
def BI (n : Nat) (v : V) : Prop := ∃ t : Int, v = .int t ∧ t.natAbs < 2 ^ n
def BP (n : Nat) (v : V) : Prop := ∃ t : Int, v = .int t ∧ 0 < t ∧ t.natAbs < 2 ^ n
/-! ### one turn of the law -/
theorem same_mut {H0 H : Hp} {D : Addr} {o : HO} (s : Same H0 H) (h : H0 D = none) : Same H0 (upd H D o) := fun b u e => by
  rw [upd_ne (ne_of_none e h)]
  exact s b u e
theorem Num.upl {C D a : Addr} {H : Hp} {q : Rat} {xs : List V} {o : HO} (h : Num C H a q) (hD : H D = some (.lst xs)) : Num C (upd H D o) a q := h.but but_upd ⟨_, hD⟩
theorem memq {α : Type} {xs : List α} {i : Nat} {v : α} {R : α → Prop} (h : xs[i]? = some v) (hR : ∀ x ∈ xs, R x) : R v := hR v (List.mem_of_getElem? h)
theorem yes_of {σ : L2.St} {H : Hp} {Q : Bool → Hp → Prop} (h : Q true H) : tYes σ H Q := h
theorem get_nil {R : Prop} {j : Nat} {a : Addr} (h : ([] : List Addr)[j]? = some a) : R := by simp at h
theorem get_snoc {α : Type} {xs : List α} {y v : α} {j : Nat} (h : (xs ++ [y])[j]? = some v) : xs[j]? = some v ∨ (j = xs.length ∧ v = y) := by
  by_cases hj : j < xs.length
  · rw [List.getElem?_append_left hj] at h
    exact .inl h
  · rw [List.getElem?_append_right (by omega)] at h
    have : j - xs.length = 0 := by
      rcases Nat.eq_zero_or_pos (j - xs.length) with e | e
      · exact e
      · rw [List.getElem?_eq_none (by simpa using (show 1 ≤ j - xs.length from e))] at h
        cases h
    rw [this] at h
    exact .inr ⟨by omega, (Option.some.inj h).symm⟩
theorem get_map {xs : List Addr} {i : Nat} {v : V} (h : (xs.map V.ref)[i]? = some v) : ∃ a, xs[i]? = some a ∧ v = .ref a := by
  rw [List.getElem?_map] at h
  cases e : xs[i]? with
  | none => rw [e] at h; cases h
  | some a => rw [e] at h; exact ⟨a, rfl, (Option.some.inj h).symm⟩
theorem iteT' {c : Bool} {A B : Prop} (hc : c = true) (h : A) : if c = true then A else B := by
  rw [if_pos hc]
  exact h
theorem iteF' {c : Bool} {A B : Prop} (hc : c = false) (h : B) : if c = true then A else B := by
  rw [hc, if_neg Bool.false_ne_true]
  exact h
section
variable {P : Program} {w : World} {K : PySem.W.Frag} {mg : Str → Option Value} {base : Heap} {A : Ad}
def spLeast : Sp := fun vs H Q _ => ∃ t b : Int, vs = [.int t, .int b] ∧ b ≠ 0 ∧ b.natAbs < 2 ^ 9000 ∧ ∀ r H', Same H H' → H r = none → H' r = some (.tup [.int (Rat.divInt t b).num, .int ((Rat.divInt t b).den : Int)]) → Q (.ref r) H'
theorem ok_law_least (T : Txt K mg A) : FnOk P w K mg base CX0 1 A.f_law_least A.d_law_least ["above", "below"] spLeast := by
  refine T.F_law_least.ok sc_law_least (fun vs H Q E h => ?_) (fun cdv B outer s H vs Q E hr h => ?_)
  · obtain ⟨a, b, rfl, _⟩ := h
    rfl
  · obtain ⟨t, b, rfl, hb, hbd, k⟩ := h
    refine ⟨_, pss_cons (ps_par (i := 2) (j := 3) rfl sc_law_least.nd rfl rfl (by decide) rfl rfl (pa_cons (pe_callB call_abs (by rfl) T.z_abs (by decide +kernel) (pa_cons (pv 0) pa_nil)) (pa_cons (pe_callB call_abs (by rfl) T.z_abs (by decide +kernel) (pa_cons (pv 1) pa_nil)) pa_nil)) (by rfl))
      (pss_cons (ps_while PassesOwn.never (pt_cmpR op_ne (pv 3) pe_int (nomark _))
        (pss_one (ps_par (i := 2) (j := 3) rfl sc_law_least.nd rfl rfl (by decide) rfl rfl (pa_cons (pv 3) (pa_cons (pe_op op_mod (pe_callTy call_int1 (by rfl) T.z_int (by decide +kernel) (pa_cons (pv 2) pa_nil)) (pv 3)) pa_nil)) (by rfl))))
      (pss_cons (ps_set (i := 4) sc_law_least.nd rfl (Or.inl rfl) (pe_ifExp (pt_cmpR op_lt (pv 1) pe_int (nomark _)) (pe_un un_neg pe_int) pe_int))
      (pss_one (ps_ret (pe_tup (pa_cons (pe_op op_fdivG (pe_op op_mul (pv 4) (pv 0)) (pv 2)) (pa_cons (pe_op op_fdivG (pe_callB call_abs (by rfl) T.z_abs (by decide +kernel) (pa_cons (pv 1) pa_nil)) (pv 2)) pa_nil))))))), ?_⟩
    refine ⟨_, rfl, _, rfl, _, rfl, _, rfl, _, _, rfl, ?_⟩
    refine while_by (fun σ H' => ∃ c d : Nat, σ = [some (.int t), some (.int b), some (.int c), some (.int d), none] ∧ Nat.gcd c d = Nat.gcd t.natAbs b.natAbs ∧ H' = H) (fun σ _ => natAt σ 3)
      ⟨t.natAbs, b.natAbs, by rw [abs_nat, abs_nat]; rfl, rfl, rfl⟩ ?_ ?_
    · rintro σ H' ⟨c, d, rfl, hg, rfl⟩
      refine ⟨_, rfl, rfl, _, rfl, ?_⟩
      by_cases hd : d = 0
      · subst hd
        refine iteF ?_
        rw [Nat.gcd_zero_right] at hg
        have hc0 : 0 < c := by rw [hg]; exact gcd_ne hb rfl
        have hcl : c ≤ b.natAbs := by rw [hg]; exact gcd_le hb rfl
        have hc2 : ((c : Int)).natAbs.log2 < 9000 := log2_lt (by decide) (Nat.lt_of_le_of_lt (by omega) hbd)
        have e1 := least_num (t := t) hb hg
        have e2 := least_den (t := t) hb hg
        refine ⟨_, rfl, _, _, rfl, rfl, _, rfl, ?_⟩
        have fin : ∀ sg : Int, sg = (if b < 0 then -1 else 1) → (tRet (tTup (tCons (tOp (rI CDivG fun i j => .int (i.fdiv j)) (tOp (rI CMul fun i j => .int (i * j)) (tVar 4) (tVar 0)) (tVar 2)) (tCons (tOp (rI CDivG fun i j => .int (i.fdiv j))
            (tCB (fun xs H Q => ∃ i, xs = [.int i] ∧ Q (.int (if i < 0 then -i else i)) H) (tCons (tVar 1) tNil)) (tVar 2)) tNil)))) { nx := fun _ H' => Q .non H', rt := Q } [some (.int t), some (.int b), some (.int c), some (.int 0), some (.int sg)] H' := fun sg hs => by
          refine ⟨_, rfl, _, rfl, _, _, rfl, rfl, Or.inl (by rw [hs]; split <;> decide), _, rfl, _, _, rfl, rfl, ⟨by omega, hc2⟩, ?_⟩
          refine ⟨_, rfl, _, rfl, _, rfl, _, _, rfl, rfl, ⟨by omega, hc2⟩, (by show 2 ≤ sizeLine; decide), fun r nr => ?_⟩
          refine k r _ (same_new nr) nr ?_
          rw [← e1, ← e2, hs]
          exact upd_same
        refine ite2 (fun hlt => ?_) (fun hlt => ?_)
        · refine ⟨_, rfl, fin _ ?_⟩
          rw [if_pos (of_decide_eq_true hlt)]
        · exact fin _ (by rw [if_neg fun z => hlt (decide_eq_true z)])
      · have hne : (!decide (V.int (d : Int) = V.int 0)) = true := by
          rw [dint_ne (show (d : Int) ≠ 0 by omega)]
          rfl
        rw [hne]
        refine iteT ?_
        refine ⟨_, rfl, _, rfl, Or.inl ⟨_, rfl, _, rfl, _, _, rfl, rfl, (by show (0 : Int) < d; omega), _, _, rfl, ⟨d, c % d, ?_, ?_, rfl⟩, ?_⟩⟩
        · rfl
        · rw [← hg, Nat.gcd_comm c d, Nat.gcd_rec d c, Nat.gcd_comm]
        · show ((c : Int) % (d : Int)).toNat < (d : Int).toNat
          have := Int.emod_lt_of_pos (c : Int) (show (0 : Int) < d by omega)
          have := Int.emod_nonneg (c : Int) (show (d : Int) ≠ 0 by omega)
          omega
    · intro σ H Q Q' m h
      obtain ⟨v, e, q⟩ := h
      obtain ⟨z, b, e2, q2⟩ := q
      exact ⟨v, e, z, b, e2, m _ _ q2⟩
end
/-! ### k01: any values -/
abbrev EN := LamX.ExtN
theorem Same.en {H H' : Hp} (s : Same H H') : EN H H' := LamX.ExtN.of s
theorem EN.seq {K : PySem.W.Frag} {H H' : Hp} {a : Addr} {xs : List V} (s : EN H H') (h : SqL K H a xs) : SqL K H' a xs := by
  rcases h with (h | ⟨o, h⟩) | h
  · exact .inl (.inl (s _ _ h fun _ z => nomatch z))
  · exact .inl (.inr ⟨o, s _ _ h fun _ z => nomatch z⟩)
  · exact .inr h
theorem EN.tup {K : PySem.W.Frag} {H H' : Hp} {a : Addr} {xs : List V} (s : EN H H') (h : SqT K H a xs) : SqT K H' a xs := by
  rcases h with (h | ⟨o, h⟩) | h
  · exact .inl (.inl (s _ _ h fun _ z => nomatch z))
  · exact .inl (.inr ⟨o, s _ _ h fun _ z => nomatch z⟩)
  · exact .inr h
mutual
theorem dk_en {K : PySem.W.Frag} {H H' : Hp} (s : EN H H') : ∀ {v : V} {d : PyData}, Dk K H v d → Dk K H' v d
  | _, _, .non => .non
  | _, _, .bl b => .bl b
  | _, _, .int i z => .int i z
  | _, _, .str x z => .str x z
  | _, _, .lst h1 h2 => .lst (s.seq h1) (dks_en s h2)
  | _, _, .tup h1 h2 => .tup (s.tup h1) (dks_en s h2)
  | _, _, .dct0 h => .dct0 (s _ _ h fun _ z => nomatch z)
  | _, _, .dct h z h2 => .dct (s _ _ h fun _ z => nomatch z) z (dk_en s h2)
theorem dks_en {K : PySem.W.Frag} {H H' : Hp} (s : EN H H') : ∀ {vs : List V} {ds : List PyData}, Dks K H vs ds → Dks K H' vs ds
  | _, _, .nil => .nil
  | _, _, .cons h1 h2 => .cons (dk_en s h1) (dks_en s h2)
end
/-- an int, or what is none -/
def It (K : PySem.W.Frag) (H : Hp) (y : V) : Option Int → Prop
  | some n => y = .int n ∧ n.natAbs < 2 ^ 300
  | none => ∀ Hh, EN H Hh → ∃ ty b1 b2, TyX K Hh y ty ∧ PySem.W.kitOne K ty (.type "int") = some b1 ∧ PySem.W.kitOne K ty (.type "bool") = some b2 ∧ (b1 && !b2) = false
theorem It.en {K : PySem.W.Frag} {H H' : Hp} {y : V} : ∀ {o : Option Int}, It K H y o → EN H H' → It K H' y o
  | some _, h, _ => h
  | none, h, s => fun Hh z => h Hh (s.trans z)
theorem It.ty {K : PySem.W.Frag} {H : Hp} {y : V} : ∀ {o : Option Int}, It K H y o → ∃ ty b1 b2, TyX K H y ty ∧ PySem.W.kitOne K ty (.type "int") = some b1 ∧ PySem.W.kitOne K ty (.type "bool") = some b2 ∧ (b1 && !b2) = o.isSome
  | some n, h => by
    obtain ⟨rfl, _⟩ := h
    exact ⟨_, true, false, .base (.int n), kit_ty (by decide +kernel), kit_ty (by decide +kernel), rfl⟩
  | none, h => h H (LamX.ExtN.refl H)
def fine : Option Int → Option Int → Bool
  | some _, some b => decide (b ≠ 0)
  | _, _ => false
structure Any1 (K : PySem.W.Frag) (H : Hp) (y : V) (o : Option Int) (d : PyData) : Prop where
  it : It K H y o
  dk : Dk K H y d
  sh : Sh d 3000 40
  eq : ∀ n, o = some n → d = .int n
theorem Any1.en {K : PySem.W.Frag} {H H' : Hp} {y : V} {o : Option Int} {d : PyData} (h : Any1 K H y o d) (s : EN H H') : Any1 K H' y o d := ⟨h.it.en s, dk_en s h.dk, h.sh, h.eq⟩
theorem same_exc {H H1 : Hp} {e dx C : Addr} {o1 o2 o3 o4 : HO} (s : Same H H1) (ne : H1 e = none) (nd : (upd H1 e o1) dx = none) (hd : dx ≠ e) : Same H (upd (del (upd (upd (upd H1 e o1) dx o2) e o3) e) dx o4) := fun b o h => by
  have h1 := s _ _ h
  have be : b ≠ e := ne_of_none h1 ne
  have bd : b ≠ dx := fun z => by
    rw [upd_ne hd, ← z, h1] at nd
    cases nd
  rw [upd_ne bd, del_ne be, upd_ne be, upd_ne bd, upd_ne be]
  exact h1
/-- the error's value -/
def BadAt (dd : Addr) (H : Hp) (v : V) : Prop := H dd = some (.xd [("value", v)])
theorem raised {R : Addr → Hp → Prop} {H : Hp} {t e dd : Addr} {xs : List V} {o1 o2 o3 : HO} (nt : H t = none) (ne : (upd H t (.tup xs)) e = none) (nd : (upd (upd H t (.tup xs)) e o1) dd = none) (hd : dd ≠ e)
    (k : ∀ dd t H', Same H H' → H' t = some (.tup xs) → BadAt dd H' (.ref t) → R dd H') : R dd (upd (del (upd (upd (upd (upd H t (.tup xs)) e o1) dd o2) e o3) e) dd (.xd [("value", .ref t)])) := by
  have het : t ≠ e := ne_of_none upd_same ne
  have hdt : t ≠ dd := fun z => by
    rw [upd_ne hd, ← z, upd_same] at nd
    cases nd
  refine k dd t _ (same_exc (C := e) (same_new nt) ne nd hd) ?_ upd_same
  rw [upd_ne hdt, del_ne het, upd_ne het, upd_ne hdt, upd_ne het, upd_same]
section
variable {P : Program} {w : World} {K : PySem.W.Frag} {mg : Str → Option Value} {base : Heap} {A : Ad}
def spIsIntX (K : PySem.W.Frag) : Sp := fun vs H Q _ => ∃ (y : V) (o : Option Int), vs = [y] ∧ It K H y o ∧ Q (.bl o.isSome) H
theorem ok_is_integerX (T : Txt K mg A) : FnOk P w K mg base CX0 1 A.f_is_integer A.d_is_integer ["value"] (spIsIntX K) := by
  refine T.F_is_integer.ok sc_is_integer (fun vs H Q E h => ?_) (fun cdv B outer s H vs Q E hr h => ?_)
  · obtain ⟨y, o, rfl, _⟩ := h
    rfl
  · obtain ⟨y, o, rfl, hy, k⟩ := h
    obtain ⟨ty, b1, b2, ht, k1, k2, e⟩ := hy.ty
    rw [← e] at k
    refine ⟨_, pss_one (ps_ret (pe_and (pe_callB call_isi (by rfl) T.z_isinstance (by decide +kernel) (pa_cons (pv 0) (pa_cons (pe_bltn (v := .ty "int") (by rfl) T.z_int (by decide +kernel) rfl) pa_nil)))
      (pe_one (pe_not (pe_callB call_isi (by rfl) T.z_isinstance (by decide +kernel) (pa_cons (pv 0) (pa_cons (pe_bltn (v := .ty "bool") (by rfl) T.z_bool (by decide +kernel) rfl) pa_nil))))))), ?_⟩
    refine ⟨_, rfl, _, _, _, _, b1, rfl, .ty "int", ht, k1, b1, rfl, ?_⟩
    cases b1 with
    | false => exact iteF' rfl k
    | true =>
      refine iteT' rfl ?_
      exact ⟨_, rfl, _, _, _, _, b2, rfl, .ty "bool", ht, k2, b2, rfl, k⟩
theorem ok_law_is_int (T : Txt K mg A) : FnOk P w K mg base CX0 1 A.f_law_is_int A.d_law_is_int ["value"] (spIsIntX K) := by
  refine T.F_law_is_int.ok sc_law_is_int (fun vs H Q E h => ?_) (fun cdv B outer s H vs Q E hr h => ?_)
  · obtain ⟨y, o, rfl, _⟩ := h
    rfl
  · obtain ⟨y, o, rfl, hy, k⟩ := h
    obtain ⟨ty, b1, b2, ht, k1, k2, e⟩ := hy.ty
    rw [← e] at k
    refine ⟨_, pss_one (ps_ret (pe_and (pe_callB call_isi (by rfl) T.z_isinstance (by decide +kernel) (pa_cons (pv 0) (pa_cons (pe_bltn (v := .ty "int") (by rfl) T.z_int (by decide +kernel) rfl) pa_nil)))
      (pe_one (pe_not (pe_callB call_isi (by rfl) T.z_isinstance (by decide +kernel) (pa_cons (pv 0) (pa_cons (pe_bltn (v := .ty "bool") (by rfl) T.z_bool (by decide +kernel) rfl) pa_nil))))))), ?_⟩
    refine ⟨_, rfl, _, _, _, _, b1, rfl, .ty "int", ht, k1, b1, rfl, ?_⟩
    cases b1 with
    | false => exact iteF' rfl k
    | true =>
      refine iteT' rfl ?_
      exact ⟨_, rfl, _, _, _, _, b2, rfl, .ty "bool", ht, k2, b2, rfl, k⟩
end
/-! ### Number of any values -/
section
variable {w : World} {K : PySem.W.Frag} {mg : Str → Option Value} {base : Heap} {A : Ad}
def spNumX (K : PySem.W.Frag) (A : Ad) : Sp := fun vs H Q E => ∃ (p dx : Addr) (y1 y2 : V) (o1 o2 : Option Int), vs = [.ref p, y1, y2] ∧ It K H y1 o1 ∧ It K H y2 o2 ∧ H p = some (.ins A.c_Number dx []) ∧
  (∀ t b, o1 = some t → o2 = some b → b ≠ 0 → Q .non (upd H p (.ins A.c_Number dx (nf (Rat.divInt t b))))) ∧ (fine o1 o2 = false → ∀ dd t H', Same H H' → H' t = some (.tup [y1, y2]) → BadAt dd H' (.ref t) → E (.ref A.c_BadNumber) (some dd) H')
theorem ok_Number_initX (T : Txt K mg A) : FnOk PP w K mg base (L2.CX PP w) 3 A.f_Number_init A.d_Number_init ["self", "top", "bottom"] (spNumX K A) := by
  refine T.F_Number_init.ok (CX := L2.CX PP w) sc_Number_init (fun vs H Q E h => ?_) (fun cdv B outer s H vs Q E hr h => ?_)
  · obtain ⟨p, dx, y1, y2, o1, o2, rfl, _⟩ := h
    rfl
  · obtain ⟨p, dx, y1, y2, o1, o2, rfl, h1, h2, hp, k1, k2⟩ := h
    have hr1 : Room 1 _ := hr.mono (by decide)
    refine ⟨_, pss_cons (ps_if (PW.pt (pw_or (pt_not (pt_val (pe_call (ok_is_integerX T) hr1 rfl T.g_is_integer T.F_is_integer.kp T.b_is_integer .nil pass0 (pa_cons (pv 1) pa_nil))))
        (pw_or (pt_not (pt_val (pe_call (ok_is_integerX T) hr1 rfl T.g_is_integer T.F_is_integer.kp T.b_is_integer .nil pass0 (pa_cons (pv 2) pa_nil))))
        (pw_or1 (pt_cmpR op_eq (pv 2) pe_int (nomark _)))))) (pss_one (ps_raise rfl (takes_of rfl rfl rfl rfl) (pmk_oex T.X_BadNumber T.in_BadNumber T.ti_BadNumber (T.I_BadNumber _ _) hr T.b_BadNumber_init .nil pass0 rfl T.g_BadNumber (pa_cons (pe_tup (pa_cons (pv 1) (pa_cons (pv 2) pa_nil))) pa_nil)))) pss_nil)
      (pss_cons (ps_set (i := 3) sc_Number_init.nd rfl (Or.inl rfl) (pe_call (ok_shared_divisor T) hr1 rfl T.g_shared_divisor T.F_shared_divisor.kp T.b_shared_divisor .nil pass0
        (pa_cons (pe_callB call_abs (by rfl) T.z_abs (by decide +kernel) (pa_cons (pv 1) pa_nil)) (pa_cons (pe_callB call_abs (by rfl) T.z_abs (by decide +kernel) (pa_cons (pv 2) pa_nil)) pa_nil))))
      (pss_cons (ps_if (pt_cmpR op_lt (pv 2) pe_int (nomark _)) (pss_one (ps_set (i := 3) sc_Number_init.nd rfl (Or.inl rfl) (pe_un un_neg (pv 3)))) pss_nil)
      (pss_cons (ps_fld (pv 0) (pe_op op_fdivG (pv 1) (pv 3)) rfl)
      (pss_one (ps_fld (pv 0) (pe_op op_fdivG (pv 2) (pv 3)) rfl))))), ?_⟩
    refine ⟨_, rfl, y1, o1, rfl, h1, _, rfl, ?_⟩
    cases o1 with
    | none =>
      refine iteT' rfl ?_
      refine ⟨_, rfl, _, rfl, (by show 2 ≤ sizeLine; decide), fun t nt => ?_⟩
      refine ⟨by show 1 ≤ 1000; decide, fun e ne => ⟨e, .ref t, rfl, upd_same, fun dd nd hd => ⟨rfl, dd, [("value", .ref t)], upd_same, by rw [upd_ne hd, upd_same], by rw [← nd, upd_ne hd], ?_⟩⟩⟩
      exact raised (R := fun dd H' => E (.ref A.c_BadNumber) (some dd) H') nt ne nd hd (k2 rfl)
    | some t =>
    refine iteF' rfl ?_
    refine ⟨_, rfl, y2, o2, rfl, h2, _, rfl, ?_⟩
    cases o2 with
    | none =>
      refine iteT' rfl ?_
      refine ⟨_, rfl, _, rfl, (by show 2 ≤ sizeLine; decide), fun t nt => ?_⟩
      refine ⟨by show 1 ≤ 1000; decide, fun e ne => ⟨e, .ref t, rfl, upd_same, fun dd nd hd => ⟨rfl, dd, [("value", .ref t)], upd_same, by rw [upd_ne hd, upd_same], by rw [← nd, upd_ne hd], ?_⟩⟩⟩
      exact raised (R := fun dd H' => E (.ref A.c_BadNumber) (some dd) H') nt ne nd hd (k2 rfl)
    | some b =>
    refine iteF' rfl ?_
    obtain ⟨rfl, _⟩ := h1
    obtain ⟨rfl, hbd⟩ := h2
    have hbd : b.natAbs < 2 ^ 9000 := up_lt hbd (by decide)
    refine ⟨_, rfl, rfl, _, rfl, ?_⟩
    by_cases hb : b = 0
    · refine iteT' (dint_eq hb) ?_
      refine ⟨_, rfl, _, rfl, (by show 2 ≤ sizeLine; decide), fun t nt => ?_⟩
      refine ⟨by show 1 ≤ 1000; decide, fun e ne => ⟨e, .ref t, rfl, upd_same, fun dd nd hd => ⟨rfl, dd, [("value", .ref t)], upd_same, by rw [upd_ne hd, upd_same], by rw [← nd, upd_ne hd], ?_⟩⟩⟩
      exact raised (R := fun dd H' => E (.ref A.c_BadNumber) (some dd) H') nt ne nd hd (k2 (by subst hb; rfl))
    refine iteF' (dint_ne hb) ?_
    refine ⟨_, rfl, t, rfl, _, rfl, b, rfl, t.natAbs, b.natAbs, by rw [abs_nat, abs_nat]; rfl, ?_⟩
    have hg0 : 0 < Nat.gcd t.natAbs b.natAbs := gcd_ne hb rfl
    have hgl : Nat.gcd t.natAbs b.natAbs ≤ b.natAbs := gcd_le hb rfl
    have hn : ∀ s : Int, s = (if b < 0 then -((Nat.gcd t.natAbs b.natAbs : Nat) : Int) else ((Nat.gcd t.natAbs b.natAbs : Nat) : Int)) → CDivG t s ∧ CDivG b s ∧ t.fdiv s = (Rat.divInt t b).num ∧ b.fdiv s = ((Rat.divInt t b).den : Int) := fun s e => by
      have h1 : s ≠ 0 := by rw [e]; split <;> omega
      have h2 : s.natAbs = Nat.gcd t.natAbs b.natAbs := by rw [e]; split <;> omega
      have h3 : s.natAbs.log2 < 9000 := log2_lt (by decide) (by rw [h2]; exact Nat.lt_of_le_of_lt hgl hbd)
      exact ⟨⟨h1, h3⟩, ⟨h1, h3⟩, by rw [e]; exact make_num hb rfl, by rw [e]; exact make_den hb rfl⟩
    refine ⟨_, rfl, _, _, rfl, rfl, _, rfl, ?_⟩
    have fin : ∀ s : Int, s = (if b < 0 then -((Nat.gcd t.natAbs b.natAbs : Nat) : Int) else ((Nat.gcd t.natAbs b.natAbs : Nat) : Int)) →
        (tSeq (sFld K (tVar 0) (tOp (rI CDivG fun i j => .int (i.fdiv j)) (tVar 1) (tVar 3)) "own_top") (sFld K (tVar 0) (tOp (rI CDivG fun i j => .int (i.fdiv j)) (tVar 2) (tVar 3)) "own_bottom")) { nx := fun _ H' => Q .non H', rt := Q }
          [some (.ref p), some (.int t), some (.int b), some (.int s)] H := fun s e => by
      obtain ⟨c1, c2, e1, e2⟩ := hn s e
      refine ⟨_, rfl, _, rfl, _, _, rfl, rfl, c1, _, rfl, p, A.c_Number, dx, [], rfl, hp, T.cl_Number, T.n_Number_own_top, (by decide), ?_⟩
      refine ⟨_, rfl, _, rfl, _, _, rfl, rfl, c2, _, rfl, p, A.c_Number, dx, _, rfl, upd_same, T.cl_Number, T.n_Number_own_bottom, (by show 1 < 1000; decide), ?_⟩
      dsimp only
      rw [upd_upd, e1, e2, nf_put]
      exact k1 t b rfl rfl hb
    refine ite2 (fun hlt => ?_) (fun hlt => ?_)
    · refine ⟨_, rfl, _, rfl, ?_⟩
      exact fin _ (by rw [if_pos (of_decide_eq_true hlt)])
    · exact fin _ (by rw [if_neg fun z => hlt (decide_eq_true z)])
theorem b1_Number (T : Txt K mg A) : ∃ ds, Vals [V.int 1] ds ∧ Binds K A.d_Number_init ["self", "top", "bottom"] ds := by
  obtain ⟨ds, r, b⟩ := T.F_Number_init.binds1 (ps := ["self", "top", "bottom"]) 2 0 (by simp) rfl (fun T' kV dc pm an cd ct us its hu hi => by
    match us, hu, its, hi with
    | [u1, u2], _, [i1], _ => exact ⟨_, rfl, rfl⟩)
  exact ⟨ds, r, b⟩
theorem b_NumberX (T : Txt K mg A) : Binds K A.d_Number_init ["self", "top", "bottom"] [] := by
  obtain ⟨ds, r, b⟩ := T.F_Number_init.binds1 (ps := ["self", "top", "bottom"]) 3 1 (by simp) rfl (fun T' kV dc pm an cd ct us its hu hi => by
    match us, hu, its, hi with
    | [u1, u2, u3], _, [i1], _ => exact ⟨_, rfl, rfl⟩)
  cases r
  exact b
end
/-! ### k01: _law_any -/
theorem same_dict {H : Hp} {D : Addr} {u v : HO} (n : H D = none) : Same H (upd (upd H D u) D v) := fun b o e => by
  rw [upd_upd, upd_ne (ne_of_none e n)]
  exact e
/-- all but p and the tables stays -/
def EB (p : Addr) (H H' : Hp) : Prop := ∀ b o, H b = some o → b ≠ p → (∀ ps, o ≠ .tbl ps) → H' b = some o
theorem EB.refl (p : Addr) (H : Hp) : EB p H H := fun _ _ e _ _ => e
theorem EB.trans {p : Addr} {H H1 H2 : Hp} (a : EB p H H1) (b : EB p H1 H2) : EB p H H2 := fun c o e n t => b c o (a c o e n t) n t
theorem SameBut.eb {p : Addr} {H H' : Hp} (a : SameBut p H H') : EB p H H' := fun b o e n _ => a b o e n
/-- what is no int, and stays -/
def Od (K : PySem.W.Frag) (p : Addr) (H : Hp) (y : V) (d : PyData) (L k : Nat) : Prop := (∀ Hh, EB p H Hh → It K Hh y none ∧ Dk K Hh y d) ∧ Sh d L k
theorem Od.eb {K : PySem.W.Frag} {p : Addr} {H H' : Hp} {y : V} {d : PyData} {L k : Nat} (h : Od K p H y d L k) (s : EB p H H') : Od K p H' y d L k := ⟨fun Hh z => h.1 Hh (s.trans z), h.2⟩
theorem no_ty {K : PySem.W.Frag} {H : Hp} {y : V} {ty : Value} {b1 b2 : Bool} (h : ∀ Hh, EN H Hh → TyX K Hh y ty) (k1 : PySem.W.kitOne K ty (.type "int") = some b1) (k2 : PySem.W.kitOne K ty (.type "bool") = some b2) (e : (b1 && !b2) = false) : It K H y none := fun Hh z => ⟨ty, b1, b2, h Hh z, k1, k2, e⟩
theorem od_tup {K : PySem.W.Frag} {p t : Addr} {H : Hp} {y : V} {d : PyData} {L k : Nat} (h : Od K p H y d L k) (e : H t = some (.tup [y])) (n : t ≠ p) : Od K p H (.ref t) (.tuple [d]) (L + 20) (k + 1) :=
  ⟨fun Hh z => ⟨no_ty (b1 := false) (b2 := false) (fun H2 z2 => .base (.tup (z2 _ _ (z _ _ e n (fun _ z => nomatch z)) (fun _ z => nomatch z)))) (kit_ty (by decide +kernel)) (kit_ty (by decide +kernel)) rfl, .tup (SqT.of (z _ _ e n (fun _ z => nomatch z))) (.cons (h.1 Hh z).2 .nil)⟩, (Sh.tup (k := k) (List.forall_mem_cons.mpr ⟨h.2, List.forall_mem_nil _⟩)).mono (by simp only [List.length_singleton]; omega) (Nat.le_refl _)⟩
theorem od_lst {K : PySem.W.Frag} {p t : Addr} {H : Hp} {y : V} {d : PyData} {L k : Nat} (h : Od K p H y d L k) (e : H t = some (.lst [y])) (n : t ≠ p) : Od K p H (.ref t) (.list [d]) (L + 20) (k + 1) :=
  ⟨fun Hh z => ⟨no_ty (b1 := false) (b2 := false) (fun H2 z2 => .base (.lst (z2 _ _ (z _ _ e n (fun _ z => nomatch z)) (fun _ z => nomatch z)))) (kit_ty (by decide +kernel)) (kit_ty (by decide +kernel)) rfl, .lst (SqL.of (z _ _ e n (fun _ z => nomatch z))) (.cons (h.1 Hh z).2 .nil)⟩, (Sh.list (k := k) (List.forall_mem_cons.mpr ⟨h.2, List.forall_mem_nil _⟩)).mono (by simp only [List.length_singleton]; omega) (Nat.le_refl _)⟩
theorem od_dct {K : PySem.W.Frag} {p t : Addr} {H : Hp} {y : V} {d : PyData} {L k : Nat} (h : Od K p H y d L k) (e : H t = some (.dK [(.inr "a", y)])) (n : t ≠ p) : Od K p H (.ref t) (.dict [(.str "a", d)]) (L + 20) (k + 1) :=
  ⟨fun Hh z => ⟨no_ty (b1 := false) (b2 := false) (fun H2 z2 => .base (.dK (z2 _ _ (z _ _ e n (fun _ z => nomatch z)) (fun _ z => nomatch z)))) (kit_ty (by decide +kernel)) (kit_ty (by decide +kernel)) rfl, .dct (z _ _ e n (fun _ z => nomatch z)) (by decide +kernel) (h.1 Hh z).2⟩, Sh.dict h.2 (by decide +kernel)⟩
theorem to_int (m : Int) : ∀ n, some m = some n → PyData.int m = .int n := fun n e => by
  cases e
  rfl
section
variable {P : Program} {w : World} {K : PySem.W.Frag} {mg : Str → Option Value} {base : Heap} {A : Ad}
def spAny (K : PySem.W.Frag) : Sp := fun vs H Q _ => ∃ (p : Addr) (n : Nat), vs = [.ref p] ∧ Pot H p n ∧ n ≤ 80000 ∧ ∀ y H' o d, (∀ Hh, EB p H' Hh → Any1 K Hh y o d) → Pot H' p (n + 28) → SameBut p H H' → Q y H'
theorem ok_law_any (T : Txt K mg A) : FnOk P w K mg base CX0 3 A.f_law_any A.d_law_any ["pot"] (spAny K) := by
  refine T.F_law_any.ok sc_law_any (fun vs H Q E h => ?_) (fun cdv B outer s H vs Q E hr h => ?_)
  · obtain ⟨p, n, rfl, _⟩ := h
    rfl
  · obtain ⟨p, n, rfl, hP, hn, k⟩ := h
    have hr1 : Room 1 _ := hr.mono (by decide)
    have hr2 : Room 2 _ := hr.mono (by decide)
    refine ⟨_, (pss_cons (ps_if (pt_cmpR op_gt (pe_call (ok_law_take T) hr1 rfl T.g_law_take T.F_law_take.kp T.b_law_take .nil pass0 (pa_cons (pv 0) (pa_cons pe_int pa_nil))) pe_int (nomark _)) (pss_one (ps_ret (pe_call (ok_law_of T) hr2 rfl T.g_law_of T.F_law_of.kp T.b_law_of .nil pass0 (pa_cons (pv 0) (pa_cons (pe_lst (pa_cons pe_int (pa_cons pe_int (pa_cons (pe_un un_neg pe_int) (pa_cons pe_int (pa_cons (pe_un un_neg pe_int) (pa_cons pe_int (pa_cons pe_int (pa_cons (pe_un un_neg pe_int) (pa_cons (pe_op op_powW pe_int pe_int) (pa_cons (pe_un un_neg (pe_op op_powW pe_int pe_int)) (pa_cons (pe_op op_powW pe_int pe_int) (pa_cons (pe_op op_sub (pe_call (ok_law_take T) hr1 rfl T.g_law_take T.F_law_take.kp T.b_law_take .nil pass0 (pa_cons (pv 0) (pa_cons pe_int pa_nil))) pe_int) pa_nil))))))))))))) pa_nil))))) pss_nil)
      (pss_cons (ps_set (i := 1) sc_law_any.nd rfl (Or.inl rfl) (pe_call (ok_law_of T) hr2 rfl T.g_law_of T.F_law_of.kp T.b_law_of .nil pass0 (pa_cons (pv 0) (pa_cons (pe_lst (pa_cons pe_non (pa_cons pe_bl (pa_cons pe_bl (pa_cons pe_str (pa_cons pe_str (pa_cons pe_str (pa_cons (pe_tup pa_nil) (pa_cons (pe_lst pa_nil) (pa_cons pe_dnewK (pa_cons (pe_tup (pa_cons pe_int pa_nil)) (pa_cons (pe_lst (pa_cons pe_int pa_nil)) (pa_cons (pe_disp (pps_cons pe_str pe_int pps_nil) (by rfl) (by rfl) (fun z => nomatch z) (by decide)) (pa_cons (pe_tup (pa_cons pe_int (pa_cons pe_int pa_nil))) pa_nil)))))))))))))) pa_nil))))
      (pss_cons (ps_for PassesOwn.never rfl (pi_range1 rfl T.z_range (pa_cons (pe_call (ok_law_of T) hr2 rfl T.g_law_of T.F_law_of.kp T.b_law_of .nil pass0 (pa_cons (pv 0) (pa_cons (pe_lst (pa_cons pe_int (pa_cons pe_int (pa_cons pe_int (pa_cons pe_int pa_nil))))) pa_nil))) pa_nil)) (pg_name (i := 2) sc_law_any.nd rfl (Or.inl rfl))
      (pss_one (ps_set (i := 1) sc_law_any.nd rfl (Or.inl rfl) (pe_call (ok_law_of T) hr2 rfl T.g_law_of T.F_law_of.kp T.b_law_of .nil pass0 (pa_cons (pv 0) (pa_cons (pe_lst (pa_cons (pe_tup (pa_cons (pv 1) pa_nil)) (pa_cons (pe_lst (pa_cons (pv 1) pa_nil)) (pa_cons (pe_disp (pps_cons pe_str (pv 1) pps_nil) (by rfl) (by rfl) (fun z => nomatch z) (by decide)) pa_nil)))) pa_nil))))))
      (pss_one (ps_ret (pv 1)))))), ?_⟩
    refine ⟨_, rfl, p, 5, n, rfl, (by decide), up_lt (n := 9000) (show (5 : Int).natAbs < 2 ^ 12 by decide) (by decide), hP, (by omega), fun r H1 r0 r1 P1 s1 => ?_⟩
    refine ⟨_, _, rfl, rfl, _, rfl, ?_⟩
    refine ite2 (fun _ => ?_) (fun _ => ?_)
    · refine ⟨_, rfl, _, rfl, _, rfl, _, rfl, _, _, rfl, rfl, ⟨by decide, by decide +kernel⟩, _, _, rfl, rfl, ⟨by decide, by decide +kernel⟩, _, rfl, _, _, rfl, rfl, ⟨by decide, by decide +kernel⟩, _, rfl, p, 1000, n + 1, rfl, (by decide), up_lt (n := 9000) (show (1000 : Int).natAbs < 2 ^ 12 by decide) (by decide), P1, (by omega), fun v H2 v0 v1 P2 s2 => ⟨_, _, rfl, rfl, by show 12 ≤ sizeLine; decide, fun l nl => ?_⟩⟩
      obtain ⟨xs, ep⟩ := P2.lst
      refine ⟨p, l, _, n + 2, rfl, upd_same, (ne_of_none ep nl).symm, by simp, by show 12 ≤ 1000; decide, P2.same (same_new nl), (by omega), fun y H3 hy P3 s3 => ?_⟩
      have allI : ∀ y ∈ ([.int 0, .int 1, .int (-1), .int 2, .int (-3), .int 6, .int 12, .int (-60), .int (10 ^ (25 : Int).toNat), .int (-(10 ^ (24 : Int).toNat)), .int (3 ^ (30 : Int).toNat), .int (v - 500)] : List V), ∃ m : Int, y = .int m ∧ m.natAbs < 2 ^ 300 := by
        repeat (first | exact List.forall_mem_nil _ | refine List.forall_mem_cons.mpr ⟨⟨_, rfl, by decide +kernel⟩, ?_⟩ | refine List.forall_mem_cons.mpr ⟨⟨_, rfl, up_lt (show (v - 500).natAbs < 2 ^ 12 by omega) (by decide)⟩, ?_⟩)
      obtain ⟨m, rfl, hm⟩ := allI _ hy
      have hS : Shows (.int m) 1921 0 := Shows.int (up_lt hm (by decide))
      exact k _ _ (some m) (.int m) (fun _ _ => ⟨⟨rfl, hm⟩, .int m hS.sh, (Sh.of hS).mono (by decide) (by decide), to_int m⟩) (P3.mono (by omega)) (((s1.trans s2).same (same_new nl)).trans s3)
    · obtain ⟨xs, ep⟩ := P1.lst
      refine ⟨_, rfl, by show 0 ≤ sizeLine; decide, fun o1 no1 => ⟨by show 0 ≤ sizeLine; decide, fun o2 no2 => fun o3 no3 => ⟨by show 1 ≤ sizeLine; decide, fun o4 no4 => ⟨by show 1 ≤ sizeLine; decide, fun o5 no5 => fun o6 no6 => ⟨upd_same, [(.inr "a", .int 1)], rfl, by show 1 ≤ 15; decide, by show 2 ≤ sizeLine; decide, fun o7 no7 => ⟨by show 13 ≤ sizeLine; decide, fun l nl => ?_⟩⟩⟩⟩⟩⟩
      have g1 : Same H1 (upd H1 o1 (.tup [])) := same_new (o := .tup []) no1
      have n1 : o1 ≠ p := (ne_of_none ep no1).symm
      have ep := g1 _ _ ep
      have e1 : (upd H1 o1 (.tup [])) o1 = some (.tup []) := upd_same
      generalize upd H1 o1 (.tup []) = G1 at *
      have g2 : Same G1 (upd G1 o2 (.lst [])) := same_new (o := .lst []) no2
      have n2 : o2 ≠ p := (ne_of_none ep no2).symm
      have ep := g2 _ _ ep
      have e2 : (upd G1 o2 (.lst [])) o2 = some (.lst []) := upd_same
      generalize upd G1 o2 (.lst []) = G2 at *
      have g3 : Same G2 (upd G2 o3 (.dK [])) := same_new (o := .dK []) no3
      have n3 : o3 ≠ p := (ne_of_none ep no3).symm
      have ep := g3 _ _ ep
      have e3 : (upd G2 o3 (.dK [])) o3 = some (.dK []) := upd_same
      generalize upd G2 o3 (.dK []) = G3 at *
      have g4 : Same G3 (upd G3 o4 (.tup [.int 1])) := same_new (o := .tup [.int 1]) no4
      have n4 : o4 ≠ p := (ne_of_none ep no4).symm
      have ep := g4 _ _ ep
      have e4 : (upd G3 o4 (.tup [.int 1])) o4 = some (.tup [.int 1]) := upd_same
      generalize upd G3 o4 (.tup [.int 1]) = G4 at *
      have g5 : Same G4 (upd G4 o5 (.lst [.int 1])) := same_new (o := .lst [.int 1]) no5
      have n5 : o5 ≠ p := (ne_of_none ep no5).symm
      have ep := g5 _ _ ep
      have e5 : (upd G4 o5 (.lst [.int 1])) o5 = some (.lst [.int 1]) := upd_same
      generalize upd G4 o5 (.lst [.int 1]) = G5 at *
      have g6 : Same G5 (upd (upd G5 o6 (.dK [])) o6 (.dK (mergeK [] [(.inr "a", .int 1)]))) := same_dict (u := .dK []) (v := .dK (mergeK [] [(.inr "a", .int 1)])) no6
      have n6 : o6 ≠ p := (ne_of_none ep no6).symm
      have ep := g6 _ _ ep
      have e6 : (upd (upd G5 o6 (.dK [])) o6 (.dK (mergeK [] [(.inr "a", .int 1)]))) o6 = some (.dK [(.inr "a", .int 1)]) := upd_same
      generalize upd (upd G5 o6 (.dK [])) o6 (.dK (mergeK [] [(.inr "a", .int 1)])) = G6 at *
      have g7 : Same G6 (upd G6 o7 (.tup [.int 1, .int 2])) := same_new (o := .tup [.int 1, .int 2]) no7
      have n7 : o7 ≠ p := (ne_of_none ep no7).symm
      have ep := g7 _ _ ep
      have e7 : (upd G6 o7 (.tup [.int 1, .int 2])) o7 = some (.tup [.int 1, .int 2]) := upd_same
      generalize upd G6 o7 (.tup [.int 1, .int 2]) = G7 at *
      have nlp : l ≠ p := (ne_of_none ep nl).symm
      have gl := same_new (o := .lst [.non, .bl true, .bl false, .str "", .str "1", .str "1/2", .ref o1, .ref o2, .ref o3, .ref o4, .ref o5, .ref o6, .ref o7]) nl
      have el : (upd G7 l (.lst [.non, .bl true, .bl false, .str "", .str "1", .str "1/2", .ref o1, .ref o2, .ref o3, .ref o4, .ref o5, .ref o6, .ref o7])) l = some (.lst [.non, .bl true, .bl false, .str "", .str "1", .str "1/2", .ref o1, .ref o2, .ref o3, .ref o4, .ref o5, .ref o6, .ref o7]) := upd_same
      generalize upd G7 l (.lst [.non, .bl true, .bl false, .str "", .str "1", .str "1/2", .ref o1, .ref o2, .ref o3, .ref o4, .ref o5, .ref o6, .ref o7]) = G8 at *
      have e1 := gl _ _ (g7 _ _ (g6 _ _ (g5 _ _ (g4 _ _ (g3 _ _ (g2 _ _ e1))))))
      have e2 := gl _ _ (g7 _ _ (g6 _ _ (g5 _ _ (g4 _ _ (g3 _ _ e2)))))
      have e3 := gl _ _ (g7 _ _ (g6 _ _ (g5 _ _ (g4 _ _ e3))))
      have e4 := gl _ _ (g7 _ _ (g6 _ _ (g5 _ _ e4)))
      have e5 := gl _ _ (g7 _ _ (g6 _ _ e5))
      have e6 := gl _ _ (g7 _ _ e6)
      have e7 := gl _ _ e7
      have sg : Same H1 G8 := ((((((g1.trans g2).trans g3).trans g4).trans g5).trans g6).trans g7).trans gl
      clear g1 g2 g3 g4 g5 g6 g7 gl no1 no2 no3 no4 no5 no6 no7
      have odds : ∀ y ∈ ([.non, .bl true, .bl false, .str "", .str "1", .str "1/2", .ref o1, .ref o2, .ref o3, .ref o4, .ref o5, .ref o6, .ref o7] : List V), ∃ d, Od K p G8 y d 2000 2 := List.forall_mem_cons.mpr ⟨⟨.none, ⟨fun Hh z => ⟨fun H2 z2 => ⟨_, false, false, .base .non, kit_ty (by decide +kernel), kit_ty (by decide +kernel), rfl⟩, .non⟩, ⟨by decide, by decide +kernel⟩⟩⟩, List.forall_mem_cons.mpr ⟨⟨.bool true, ⟨fun Hh z => ⟨fun H2 z2 => ⟨_, true, true, .base (.bl _), kit_ty (by decide +kernel), kit_ty (by decide +kernel), rfl⟩, .bl _⟩, ⟨by decide, by decide +kernel⟩⟩⟩, List.forall_mem_cons.mpr ⟨⟨.bool false, ⟨fun Hh z => ⟨fun H2 z2 => ⟨_, true, true, .base (.bl _), kit_ty (by decide +kernel), kit_ty (by decide +kernel), rfl⟩, .bl _⟩, ⟨by decide, by decide +kernel⟩⟩⟩, List.forall_mem_cons.mpr ⟨⟨.str "", ⟨fun Hh z => ⟨fun H2 z2 => ⟨_, false, false, .base (.str _), kit_ty (by decide +kernel), kit_ty (by decide +kernel), rfl⟩, .str _ (by decide +kernel)⟩, ⟨by decide, by decide +kernel⟩⟩⟩, List.forall_mem_cons.mpr ⟨⟨.str "1", ⟨fun Hh z => ⟨fun H2 z2 => ⟨_, false, false, .base (.str _), kit_ty (by decide +kernel), kit_ty (by decide +kernel), rfl⟩, .str _ (by decide +kernel)⟩, ⟨by decide, by decide +kernel⟩⟩⟩, List.forall_mem_cons.mpr ⟨⟨.str "1/2", ⟨fun Hh z => ⟨fun H2 z2 => ⟨_, false, false, .base (.str _), kit_ty (by decide +kernel), kit_ty (by decide +kernel), rfl⟩, .str _ (by decide +kernel)⟩, ⟨by decide, by decide +kernel⟩⟩⟩, List.forall_mem_cons.mpr ⟨⟨.tuple [], ⟨fun Hh z => ⟨fun H2 z2 => ⟨_, false, false, .base (.tup (z2 _ _ (z _ _ e1 n1 (fun _ z => nomatch z)) (fun _ z => nomatch z))), kit_ty (by decide +kernel), kit_ty (by decide +kernel), rfl⟩, .tup (SqT.of (z _ _ e1 n1 (fun _ z => nomatch z))) .nil⟩, ⟨by decide, by decide +kernel⟩⟩⟩, List.forall_mem_cons.mpr ⟨⟨.list [], ⟨fun Hh z => ⟨fun H2 z2 => ⟨_, false, false, .base (.lst (z2 _ _ (z _ _ e2 n2 (fun _ z => nomatch z)) (fun _ z => nomatch z))), kit_ty (by decide +kernel), kit_ty (by decide +kernel), rfl⟩, .lst (SqL.of (z _ _ e2 n2 (fun _ z => nomatch z))) .nil⟩, ⟨by decide, by decide +kernel⟩⟩⟩, List.forall_mem_cons.mpr ⟨⟨.dict [], ⟨fun Hh z => ⟨fun H2 z2 => ⟨_, false, false, .base (.dK (z2 _ _ (z _ _ e3 n3 (fun _ z => nomatch z)) (fun _ z => nomatch z))), kit_ty (by decide +kernel), kit_ty (by decide +kernel), rfl⟩, .dct0 (z _ _ e3 n3 (fun _ z => nomatch z))⟩, ⟨by decide, by decide +kernel⟩⟩⟩, List.forall_mem_cons.mpr ⟨⟨.tuple [.int 1], ⟨fun Hh z => ⟨fun H2 z2 => ⟨_, false, false, .base (.tup (z2 _ _ (z _ _ e4 n4 (fun _ z => nomatch z)) (fun _ z => nomatch z))), kit_ty (by decide +kernel), kit_ty (by decide +kernel), rfl⟩, .tup (SqT.of (z _ _ e4 n4 (fun _ z => nomatch z))) (.cons (.int 1 (by decide +kernel)) .nil)⟩, ⟨by decide, by decide +kernel⟩⟩⟩, List.forall_mem_cons.mpr ⟨⟨.list [.int 1], ⟨fun Hh z => ⟨fun H2 z2 => ⟨_, false, false, .base (.lst (z2 _ _ (z _ _ e5 n5 (fun _ z => nomatch z)) (fun _ z => nomatch z))), kit_ty (by decide +kernel), kit_ty (by decide +kernel), rfl⟩, .lst (SqL.of (z _ _ e5 n5 (fun _ z => nomatch z))) (.cons (.int 1 (by decide +kernel)) .nil)⟩, ⟨by decide, by decide +kernel⟩⟩⟩, List.forall_mem_cons.mpr ⟨⟨.dict [(.str "a", .int 1)], ⟨fun Hh z => ⟨fun H2 z2 => ⟨_, false, false, .base (.dK (z2 _ _ (z _ _ e6 n6 (fun _ z => nomatch z)) (fun _ z => nomatch z))), kit_ty (by decide +kernel), kit_ty (by decide +kernel), rfl⟩, .dct (z _ _ e6 n6 (fun _ z => nomatch z)) (by decide +kernel) (.int 1 (by decide +kernel))⟩, ⟨by decide, by decide +kernel⟩⟩⟩, List.forall_mem_cons.mpr ⟨⟨.tuple [.int 1, .int 2], ⟨fun Hh z => ⟨fun H2 z2 => ⟨_, false, false, .base (.tup (z2 _ _ (z _ _ e7 n7 (fun _ z => nomatch z)) (fun _ z => nomatch z))), kit_ty (by decide +kernel), kit_ty (by decide +kernel), rfl⟩, .tup (SqT.of (z _ _ e7 n7 (fun _ z => nomatch z))) (.cons (.int 1 (by decide +kernel)) (.cons (.int 2 (by decide +kernel)) .nil))⟩, ⟨by decide, by decide +kernel⟩⟩⟩, List.forall_mem_nil _⟩⟩⟩⟩⟩⟩⟩⟩⟩⟩⟩⟩⟩
      have P8 := P1.same sg
      refine ⟨p, l, _, n + 1, rfl, el, nlp, by simp, by show 13 ≤ 1000; decide, P8, (by omega), fun y H2 hy P2 s2 => ?_⟩
      obtain ⟨d, hd⟩ := odds y hy
      have hd := hd.eb s2.eb
      have sb := (s1.same sg).trans s2
      clear odds el e1 e2 e3 e4 e5 e6 e7 n1 n2 n3 n4 n5 n6 n7 nlp ep sg P8 P1 s1 s2
      refine stT (σ' := [some (.ref p), some y, none]) rfl ?_
      refine ⟨_, rfl, by show 4 ≤ sizeLine; decide, fun l2 nl2 => ?_⟩
      have g2 := same_new (o := .lst [.int 0, .int 0, .int 1, .int 25]) nl2
      have nl2p : l2 ≠ p := (ne_of_none P2.lst.choose_spec nl2).symm
      refine ⟨p, l2, _, n + 2, rfl, upd_same, nl2p, by simp, by show 4 ≤ 1000; decide, P2.same g2, (by omega), fun m H3 hm P3 s3 => ?_⟩
      have nums : ∀ y ∈ ([.int 0, .int 0, .int 1, .int 25] : List V), ∃ m : Int, y = .int m ∧ 0 ≤ m ∧ m ≤ 25 := by
        repeat (first | exact List.forall_mem_nil _ | refine List.forall_mem_cons.mpr ⟨⟨_, rfl, by decide, by decide⟩, ?_⟩)
      obtain ⟨m, rfl, m0, m1⟩ := nums _ hm
      have sb := (sb.same g2).trans s3
      have hd := hd.eb (((Same.but p g2).trans s3).eb)
      clear nums hm g2 s3 P2
      refine ⟨m, rfl, by omega, by omega, for_range (lo := 0) (n := m.toNat) (fun i σ Hh => ∃ v2 y d, σ = [some (.ref p), some y, v2] ∧ Od K p Hh y d (2000 + 20 * i) (2 + i) ∧ Pot Hh p (n + 3 + i) ∧ SameBut p H Hh) ⟨none, y, d, rfl, hd, P3, sb⟩ ?_ ?_⟩
      · rintro i σ Hh hi ⟨v2, y, d, rfl, hd, P4, sb⟩
        refine ⟨_, rfl, _, rfl, by show 1 ≤ sizeLine; decide, fun t nt => ⟨_, rfl, by show 1 ≤ sizeLine; decide, fun q nq => fun D nD => ⟨_, rfl, upd_same, [(.inr "a", y)], rfl, by show 1 ≤ 15; decide, by show 3 ≤ sizeLine; decide, fun l3 nl3 => ?_⟩⟩⟩
        have ep := P4.lst.choose_spec
        have g1 : Same Hh (upd Hh t (.tup [y])) := same_new nt
        have n1 : t ≠ p := (ne_of_none ep nt).symm
        have e1 : (upd Hh t (.tup [y])) t = some (.tup [y]) := upd_same
        generalize upd Hh t (.tup [y]) = G1 at *
        have ep := g1 _ _ ep
        have g2 : Same G1 (upd G1 q (.lst [y])) := same_new nq
        have n2 : q ≠ p := (ne_of_none ep nq).symm
        have e2 : (upd G1 q (.lst [y])) q = some (.lst [y]) := upd_same
        generalize upd G1 q (.lst [y]) = G2 at *
        have ep := g2 _ _ ep
        have g3 : Same G2 (upd (upd G2 D (.dK [])) D (.dK (mergeK [] [(.inr "a", y)]))) := same_dict (u := .dK []) (v := .dK (mergeK [] [(.inr "a", y)])) nD
        have n3 : D ≠ p := (ne_of_none ep nD).symm
        have e3 : (upd (upd G2 D (.dK [])) D (.dK (mergeK [] [(.inr "a", y)]))) D = some (.dK [(.inr "a", y)]) := upd_same
        generalize upd (upd G2 D (.dK [])) D (.dK (mergeK [] [(.inr "a", y)])) = G3 at *
        have ep := g3 _ _ ep
        have g4 : Same G3 (upd G3 l3 (.lst [.ref t, .ref q, .ref D])) := same_new nl3
        have n4 : l3 ≠ p := (ne_of_none ep nl3).symm
        have e4 : (upd G3 l3 (.lst [.ref t, .ref q, .ref D])) l3 = some (.lst [.ref t, .ref q, .ref D]) := upd_same
        generalize upd G3 l3 (.lst [.ref t, .ref q, .ref D]) = G4 at *
        have e3 := g4 _ _ e3
        have e2 := g4 _ _ (g3 _ _ e2)
        have e1 := g4 _ _ (g3 _ _ (g2 _ _ e1))
        have sg := ((g1.trans g2).trans g3).trans g4
        have hd := hd.eb (Same.but p sg).eb
        refine ⟨p, l3, _, n + 3 + i, rfl, e4, n4, by simp, by show 3 ≤ 1000; decide, P4.same sg, (by omega), fun y2 H5 hy2 P5 s5 => ?_⟩
        have all : ∀ y2 ∈ ([.ref t, .ref q, .ref D] : List V), ∃ d2, Od K p G4 y2 d2 (2000 + 20 * i + 20) (2 + i + 1) :=
          List.forall_mem_cons.mpr ⟨⟨_, od_tup hd e1 n1⟩, List.forall_mem_cons.mpr ⟨⟨_, od_lst hd e2 n2⟩, List.forall_mem_cons.mpr ⟨⟨_, od_dct hd e3 n3⟩, List.forall_mem_nil _⟩⟩⟩
        obtain ⟨d2, hd2⟩ := all y2 hy2
        exact ⟨_, y2, d2, rfl, hd2.eb s5.eb, P5, (sb.same sg).trans s5⟩
      · rintro σ Hh ⟨v2, y, d, rfl, hd, P4, sb⟩
        exact ⟨_, rfl, k y Hh none d (fun H9 z9 => ⟨(hd.1 H9 z9).1, (hd.1 H9 z9).2, hd.2.mono (by omega) (by omega), fun _ e => nomatch e⟩) (P4.mono (by omega)) sb⟩
end
/-! ### k01: _law_heard, given a lambda -/
theorem rtT {σ σ' : L2.St} {ta : TS} {D : Ends} {H : Hp} (e : σ = σ') (h : ta D σ' H) : ta D σ H := e ▸ h
/-- what it makes of the lambda's reading -/
def TTHeard (A : Ad) : (XK → Hp → VK → Prop) → Hp → VK → Prop := fun tl H Q => ∀ (H0 : Hp) (E : XK) (Qv : VK), Same H H0 →
  (∀ dd v H', Same H0 H' → BadAt dd H' v → (∀ r H'', Same H' H'' → H'' r = some (.tup [.str "bad", v]) → Q (.ref r) H'') → E (.ref A.c_BadNumber) (some dd) H') →
  (∀ x q H', Num A.c_Number H' x q → (∀ r t H'', Same H' H'' → H'' r = some (.tup [.str "told", .ref t]) → H'' t = some (.tup [.int q.num, .int (q.den : Int)]) → Q (.ref r) H'') → Qv (.ref x) H') → tl E H0 Qv
theorem heard_gives {A : Ad} {X : Cx} (T : Txt X.K X.mg A) (hr : Room 3 X.A) (q : Str) (g : Addr) (cdg : Value) : LamX.GivesTo X ["ask", "caught", "told", "e"] "_law_heard" (defScope s_law_heard) g cdg (defBody s_law_heard) "ask" q (TTHeard A) := by
  intro f c' s H Q tl act hc h
  have hr1 : Room 2 (cxOf C8.CX0 X.prog X.w X.K X.mg X.base ["ask", "caught", "told", "e"] "_law_heard" (defScope s_law_heard) g cdg X.A X.stack s H C8.E0).nox.A := hr.deeper _
  refine ⟨_, (pss_cons (ps_asg (pe_tup (pa_cons pe_non (pa_cons pe_non pa_nil))) (pgTup X.K 2 rfl (pgs_cons (pg_name (i := 1) sc_law_heard.nd rfl (Or.inl rfl)) (pgs_cons (pg_name (i := 2) sc_law_heard.nd rfl (Or.inl rfl)) pgs_nil))))
      (pss_cons (ps_try_keep (i := 3) (tb := fun W D σ H => ∃ Ech : XK, (∀ cls d σ' H', Ech cls d H' → σ'.length = 4 → W cls d σ' H') ∧ tAsg (fun σZ HZ Q => σZ[0]? = some (some (.ref f)) ∧ HZ c' = some (LamX.CodeO c' q) ∧ tl Ech HZ Q) (gName 2) D σ H) rfl rfl rfl sc_law_heard.nd rfl rfl ⟨rfl, by decide, .inl T.g_SpeedError⟩ takes0
        (fun W pn xe tk _ => ⟨fun pins s' σ H' D I ⟨Ech, hW, h'⟩ => (pss_one (ps_set (i := 2) sc_law_heard.nd rfl (Or.inl rfl) (act _ pn xe Ech _ _ (takes_len tk) hW))).run pins s' σ H' D I h'⟩)
        (fun a oe pn => pss_one (ps_set (i := 1) sc_law_heard.nd rfl (Or.inl rfl) (pv 3))))
      (pss_cons (ps_if (pt_cmp (pc_isN (pv 1))) (pss_one (ps_ret (pe_tup (pa_cons pe_str (pa_cons (pe_tup (pa_cons (pe_prop (pv 2) T.cl_Number T.P_Number_top (ok_Number_top T) hr1 T.b_Number_top .nil pass0 rfl) (pa_cons (pe_prop (pv 2) T.cl_Number T.P_Number_bottom (ok_Number_bottom T) hr1 T.b_Number_bottom .nil pass0 rfl) pa_nil))) pa_nil))))) pss_nil)
      (pss_cons (ps_if (PW.pt (pw_or (pt_not (pt_val (pe_callB call_isC (by rfl) T.z_isinstance (by decide +kernel) (pa_cons (pv 1) (pa_cons (pe_glob (v := .ref A.c_BadNumber) (by rfl) T.g_BadNumber rfl) pa_nil))))) (pw_or1 (pt_val (pe_callB call_isCT (by rfl) T.z_isinstance (by decide +kernel) (pa_cons (pv 1) (pa_cons (pe_tup (pa_cons (pe_glob (v := .ref A.c_BadStretch) (by rfl) T.g_BadStretch rfl) (pa_cons (pe_glob (v := .ref A.c_BadText) (by rfl) T.g_BadText rfl) pa_nil))) pa_nil))))))) (pss_one (ps_ret (pe_tup (pa_cons pe_str (pa_cons pe_non pa_nil))))) pss_nil)
      (pss_one (ps_ret (pe_ifExp (pt_val (pe_callB call_isC (by rfl) T.z_isinstance (by decide +kernel) (pa_cons (pv 1) (pa_cons (pe_bltn (v := .ty "ValueError") (by rfl) T.z_ValueError (by decide +kernel) rfl) pa_nil)))) (pe_tup (pa_cons pe_str (pa_cons (pe_cauf (pv 1)) pa_nil))) (pe_tup (pa_cons pe_str (pa_cons pe_non pa_nil)))))))))), ?_⟩
  refine ⟨by show 2 ≤ sizeLine; decide, fun n0 nn0 => ⟨n0, _, rfl, SqT.of upd_same, rfl, _, _, rfl, _, _, rfl, rfl, ?_⟩⟩
  have s0 := same_new (o := .tup [.non, .non]) nn0
  have hc := s0 _ _ hc
  generalize upd H n0 (.tup [.non, .non]) = H0 at *
  refine stT (σ' := [some (.ref f), some .non, some .non, none]) rfl ?_
  refine ⟨fun cls d H' => ∀ σ' : L2.St, σ'.length = 4 → wKeep X.K (.ref A.c_SpeedError) 3 (tAsg (tVar 3) (gName 1)) (fun _ _ _ _ => False) _ cls d σ' H', fun cls d σ' H' z hl => z σ' hl, ?_⟩
  refine ⟨rfl, hc, h H0 _ _ s0 (fun dd v H1 s1 ed hq σ' hl => ?_) (fun x q H1 hx hq => ?_)⟩
  · obtain ⟨a0, a1, a2, a3, rfl⟩ : ∃ a0 a1 a2 a3, σ' = [a0, a1, a2, a3] := by
      match σ', hl with
      | [a0, a1, a2, a3], _ => exact ⟨a0, a1, a2, a3, rfl⟩
    refine ⟨true, T.em_BadNumber_SpeedError, fun _ e ne => ?_, fun z => nomatch z⟩
    refine ⟨_, rfl, ?_⟩
    dsimp only [gName]
    refine stT (σ' := [a0, some (.ref e), a2, none]) rfl ?_
    have se := same_new (o := Cau (.ref A.c_BadNumber) (some dd) e) ne
    have ed2 : BadAt dd (upd H1 e (Cau (.ref A.c_BadNumber) (some dd) e)) v := se _ _ ed
    have ee : (upd H1 e (Cau (.ref A.c_BadNumber) (some dd) e)) e = some (Cau (.ref A.c_BadNumber) (some dd) e) := upd_same
    generalize upd H1 e (Cau (.ref A.c_BadNumber) (some dd) e) = H2 at *
    refine ⟨_, rfl, _, rfl, ?_⟩
    refine iteF' (by simp) ?_
    refine ⟨_, rfl, e, _, dd, _, _, _, _, rfl, ee, ed2, T.C_BadNumber, fun u hu => hu, T.kit_BB, _, rfl, ?_⟩
    refine iteF' rfl ?_
    refine ⟨_, rfl, by show 2 ≤ sizeLine; decide, fun n nn => ?_⟩
    have sn := same_new (o := .tup [.ref A.c_BadStretch, .ref A.c_BadText]) nn
    have ed3 : BadAt dd (upd H2 n (.tup [.ref A.c_BadStretch, .ref A.c_BadText])) v := sn _ _ ed2
    have ee3 := sn _ _ ee
    have kA : PySem.W.kitAny X.K (.ref A.c_BadNumber) [.ref A.c_BadStretch, .ref A.c_BadText] = some false := by simp [PySem.W.kitAny, T.kit_BS, T.kit_BT]
    refine ⟨e, _, dd, n, _, _, [.ref A.c_BadStretch, .ref A.c_BadText], _, rfl, ee3, ed3, T.C_BadNumber, upd_same, fun us hu => ?_, kA, _, rfl, ?_⟩
    · cases hu with
      | cons r1 r2 =>
        cases r2 with
        | cons r3 r4 =>
          cases r4
          cases (show _ = Value.ref A.c_BadStretch from r1)
          cases (show _ = Value.ref A.c_BadText from r3)
          rfl
    generalize upd H2 n (.tup [.ref A.c_BadStretch, .ref A.c_BadText]) = H3 at *
    refine iteF' rfl ?_
    refine ⟨_, rfl, e, _, dd, _, _, _, _, rfl, ee3, ed3, T.C_BadNumber, fun u hu => hu, T.kit_BV, _, rfl, ?_⟩
    refine iteT' rfl ?_
    refine ⟨_, rfl, e, _, dd, _, _, rfl, ee3, ed3, T.C_BadNumber.x, T.no_BadNumber, rfl, by show 2 ≤ sizeLine; decide, fun r nr => ?_⟩
    exact hq r _ ((se.trans sn).trans (same_new nr)) upd_same
  · dsimp only [gName]
    refine stT (σ' := [some (.ref f), some .non, some (.ref x), none]) rfl ?_
    refine ⟨_, rfl, _, rfl, ?_⟩
    refine iteT' rfl ?_
    refine ⟨_, rfl, x, _, _, rfl, hx.choose_spec, x, _, _, _, rfl, hx.choose_spec, nf_top q, _, rfl, x, _, _, rfl, hx.choose_spec, x, _, _, _, rfl, hx.choose_spec, nf_bot q, by show 2 ≤ sizeLine; decide, fun t nt => ?_⟩
    refine ⟨by show 2 ≤ sizeLine; decide, fun r nr => ?_⟩
    exact hq r t _ ((same_new nt).trans (same_new nr)) upd_same ((same_new nr) _ _ upd_same)
/-! ### k01: one pair -/
theorem nes {d e : PyData} (h : d = e) : (!decide (V.str d.shown = V.str e.shown)) = false := by
  subst h
  simp
abbrev TL : List (Addr × Str) := [(263, (("_law_is_right" : Str) ++ ".<locals>." : Str) ++ "<lambda>")]
def bad (d1 d2 : PyData) : PyData := .tuple [.str "bad", .tuple [d1, d2]]
def told (q : Rat) : PyData := .tuple [.str "told", .tuple [.int q.num, .int (q.den : Int)]]
def dueD (o1 o2 : Option Int) (d1 d2 : PyData) : PyData :=
  match o1, o2 with
  | some t, some b => if b = 0 then bad d1 d2 else told (Rat.divInt t b)
  | _, _ => bad d1 d2
theorem due_bad {o1 o2 : Option Int} {d1 d2 : PyData} (h : fine o1 o2 = false) : dueD o1 o2 d1 d2 = bad d1 d2 := by
  match o1, o2, h with
  | some t, some b, h =>
    have : b = 0 := by simpa [fine] using h
    exact if_pos this
  | some _, none, _ => rfl
  | none, some _, _ => rfl
  | none, none, _ => rfl
theorem due_told {t b : Int} {d1 d2 : PyData} (h : b ≠ 0) : dueD (some t) (some b) d1 d2 = told (Rat.divInt t b) := if_neg h
/-- what stands for a heard number, or a heard error -/
def Res (H : Hp) (r : Addr) (y1 y2 : V) (o1 o2 : Option Int) : Prop := ∃ (t : Addr) (xs : List V) (s : Str), H r = some (.tup [.str s, .ref t]) ∧ H t = some (.tup xs) ∧
  ((fine o1 o2 = false ∧ s = "bad" ∧ xs = [y1, y2]) ∨ (∃ a b, o1 = some a ∧ o2 = some b ∧ b ≠ 0 ∧ s = "told" ∧ xs = [.int (Rat.divInt a b).num, .int ((Rat.divInt a b).den : Int)]))
theorem Res.en {H H' : Hp} {r : Addr} {y1 y2 : V} {o1 o2 : Option Int} (h : Res H r y1 y2 o1 o2) (s : EN H H') : Res H' r y1 y2 o1 o2 := by
  obtain ⟨t, xs, x, h1, h2, h3⟩ := h
  exact ⟨t, xs, x, s _ _ h1 (fun _ z => nomatch z), s _ _ h2 (fun _ z => nomatch z), h3⟩
theorem Res.upl {H : Hp} {r l : Addr} {y1 y2 : V} {o1 o2 : Option Int} {ys : List V} {o : HO} (h : Res H r y1 y2 o1 o2) (hl : H l = some (.lst ys)) : Res (upd H l o) r y1 y2 o1 o2 := by
  obtain ⟨t, xs, x, h1, h2, h3⟩ := h
  have n1 : r ≠ l := fun z => by
    rw [z, hl] at h1
    cases h1
  have n2 : t ≠ l := fun z => by
    rw [z, hl] at h2
    cases h2
  exact ⟨t, xs, x, by rw [upd_ne n1]; exact h1, by rw [upd_ne n2]; exact h2, h3⟩
theorem tabs_upl {H : Hp} {l : Addr} {xs : List V} {o : HO} (t : LamX.Tabs TL H) (hl : H l = some (.lst xs)) : LamX.Tabs TL (upd H l o) := fun p hp => by
  obtain ⟨ps, h1, h2, h3⟩ := t p hp
  have n1 : p.1 ≠ l := fun z => by
    rw [z, hl] at h1
    cases h1
  refine ⟨ps, by rw [upd_ne n1]; exact h1, h2, fun pos cv hc => ?_⟩
  obtain ⟨c, e1, e2⟩ := h3 pos cv hc
  have n2 : c ≠ l := fun z => by
    rw [z, hl] at e2
    cases e2
  exact ⟨c, e1, by rw [upd_ne n2]; exact e2⟩
theorem int_dk {K : PySem.W.Frag} {H : Hp} {n : Int} (h : n.natAbs < 2 ^ 300) : Dk K H (.int n) (.int n) := .int n (Shows.int (k := 0) (up_lt h (by decide))).sh
theorem int_sh {n : Int} (h : n.natAbs < 2 ^ 300) : Sh (.int n) 3000 40 := (Sh.of (Shows.int (k := 0) (up_lt h (by decide)))).mono (by decide) (by decide)
theorem Res.dk {K : PySem.W.Frag} {H : Hp} {r : Addr} {y1 y2 : V} {o1 o2 : Option Int} {d1 d2 : PyData} (h : Res H r y1 y2 o1 o2) (a1 : Any1 K H y1 o1 d1) (a2 : Any1 K H y2 o2 d2) : Dk K H (.ref r) (dueD o1 o2 d1 d2) := by
  obtain ⟨t, xs, x, h1, h2, ⟨hf, rfl, rfl⟩ | ⟨a, b, rfl, rfl, hb, rfl, rfl⟩⟩ := h
  · rw [due_bad hf]
    exact .tup (SqT.of h1) (.cons (.str _ (by decide +kernel)) (.cons (.tup (SqT.of h2) (.cons a1.dk (.cons a2.dk .nil))) .nil))
  · rw [due_told hb]
    have B : Bd 300 (Rat.divInt a b) := Bd.mk' hb a1.it.2 a2.it.2
    exact .tup (SqT.of h1) (.cons (.str _ (by decide +kernel)) (.cons (.tup (SqT.of h2) (.cons (int_dk B.1) (.cons (int_dk (by rw [Int.natAbs_natCast]; exact B.2)) .nil))) .nil))
theorem pair_sh {x : Str} {d1 d2 : PyData} (h1 : Sh d1 3000 40) (h2 : Sh d2 3000 40) (hx : (PyData.str x).shown.length ≤ 3000) : Sh (.tuple [.str x, .tuple [d1, d2]]) 13000 42 := by
  have i : Sh (.tuple [d1, d2]) 6100 41 := (Sh.tup (k := 40) (List.forall_mem_cons.mpr ⟨h1, List.forall_mem_cons.mpr ⟨h2, List.forall_mem_nil _⟩⟩)).mono (by show (3000 + 2) * 2 + 3 ≤ 6100; decide) (by decide)
  have s : Sh (.str x) 6100 41 := ⟨Nat.zero_le _, Nat.le_trans hx (by decide)⟩
  exact (Sh.tup (k := 41) (List.forall_mem_cons.mpr ⟨s, List.forall_mem_cons.mpr ⟨i, List.forall_mem_nil _⟩⟩)).mono (by show (6100 + 2) * 2 + 3 ≤ 13000; decide) (by decide)
theorem due_sh {K : PySem.W.Frag} {H : Hp} {y1 y2 : V} {o1 o2 : Option Int} {d1 d2 : PyData} (a1 : Any1 K H y1 o1 d1) (a2 : Any1 K H y2 o2 d2) : Sh (dueD o1 o2 d1 d2) 13000 42 := by
  cases hf : fine o1 o2 with
  | false =>
    rw [due_bad hf]
    exact pair_sh (x := "bad") a1.sh a2.sh (by decide +kernel)
  | true =>
    match o1, o2, hf, a1, a2 with
    | some a, some b, hf, a1, a2 =>
      have hb : b ≠ 0 := by simpa [fine] using hf
      rw [due_told hb]
      have B : Bd 300 (Rat.divInt a b) := Bd.mk' hb a1.it.2 a2.it.2
      exact pair_sh (x := "told") (int_sh B.1) (int_sh (by rw [Int.natAbs_natCast]; exact B.2)) (by decide +kernel)
theorem due_seq {o1 o2 : Option Int} {d1 d2 : PyData} : seqD (dueD o1 o2 d1 d2) = true := by
  cases hf : fine o1 o2 with
  | false =>
    rw [due_bad hf]
    rfl
  | true =>
    match o1, o2, hf with
    | some a, some b, hf =>
      rw [due_told (by simpa [fine] using hf)]
      rfl
theorem one_it {K : PySem.W.Frag} {H : Hp} : It K H (.int 1) (some 1) := ⟨rfl, by decide +kernel⟩
theorem num_one (a : Int) : (Rat.divInt a 1).num = a ∧ (Rat.divInt a 1).den = 1 := by
  have e1 := make_num (t := a) (b := 1) (g := 1) (by decide) (by simp)
  have e2 := make_den (t := a) (b := 1) (g := 1) (by decide) (by simp)
  rw [if_neg (by decide)] at e1 e2
  refine ⟨by rw [← e1]; exact (Int.fdiv_one a).symm ▸ rfl, by have e3 : Int.fdiv 1 ((1 : Nat) : Int) = 1 := by decide
                                                              omega⟩
section
variable {K : PySem.W.Frag} {A : Ad}
theorem heardN {tl : XK → Hp → VK → Prop} {H1 : Hp} {Q : VK} {y1 y2 : V} {o1 o2 : Option Int}
    (htl : ∀ (H0 : Hp) (E : XK) (Qv : VK), Same H1 H0 → (fine o1 o2 = false → ∀ dd t H', Same H0 H' → H' t = some (.tup [y1, y2]) → BadAt dd H' (.ref t) → E (.ref A.c_BadNumber) (some dd) H') →
      (∀ x a b H', o1 = some a → o2 = some b → b ≠ 0 → Same H0 H' → Num A.c_Number H' x (Rat.divInt a b) → Qv (.ref x) H') → tl E H0 Qv)
    (k : ∀ r H', Same H1 H' → Res H' r y1 y2 o1 o2 → Q (.ref r) H') : TTHeard A tl H1 Q := by
  intro H0 E Qv s0 hE hQ
  refine htl H0 E Qv s0 (fun hf dd t H' s1 et ed => ?_) (fun x a b H' e1 e2 hb s1 hx => ?_)
  · exact hE dd _ H' s1 ed fun r H2 s2 er => k r H2 ((s0.trans s1).trans s2) ⟨t, _, _, er, s2 _ _ et, .inl ⟨hf, rfl, rfl⟩⟩
  · exact hQ x _ H' hx fun r t H2 s2 er et => k r H2 ((s0.trans s1).trans s2) ⟨t, _, _, er, et, .inr ⟨a, b, e1, e2, hb, rfl, rfl⟩⟩
theorem num_made {H0 : Hp} {x dx : Addr} {y1 y2 : V} {o1 o2 : Option Int} {E : XK} {Qv : VK} (nx : H0 x = none) (ndx : H0 dx = none) (i1 : It K H0 y1 o1) (i2 : It K H0 y2 o2)
    (hE : fine o1 o2 = false → ∀ dd t H', Same H0 H' → H' t = some (.tup [y1, y2]) → BadAt dd H' (.ref t) → E (.ref A.c_BadNumber) (some dd) H')
    (hQ : ∀ x a b H', o1 = some a → o2 = some b → b ≠ 0 → Same H0 H' → Num A.c_Number H' x (Rat.divInt a b) → Qv (.ref x) H') :
    spNumX K A [.ref x, y1, y2] (upd (upd H0 dx (.own x)) x (.ins A.c_Number dx [])) (fun v H2 => v = .non ∧ Qv (.ref x) H2) E := by
  have s : Same H0 (upd (upd H0 dx (.own x)) x (.ins A.c_Number dx [])) := fun c u e => by
    rw [upd_ne (ne_of_none e nx), upd_ne (ne_of_none e ndx)]
    exact e
  exact ⟨x, dx, y1, y2, o1, o2, rfl, i1.en (Same.en s), i2.en (Same.en s), upd_same, fun t b e1 e2 hb => ⟨rfl, hQ x t b _ e1 e2 hb (made_num (Rat.divInt t b) nx ndx).1 (made_num (Rat.divInt t b) nx ndx).2⟩, fun hf dd t H' s1 et ed => hE hf dd t H' (s.trans s1) et ed⟩
end
section
variable {w : World} {K : PySem.W.Frag} {mg : Str → Option Value} {base : Heap} {A : Ad}
theorem kb_Number (T : Txt K mg A) : ∃ its : List Value, KBn K A.d_Number_init ["self", "top", "bottom"] 1 ["bottom", "top"] (fun us ws => us ++ ws.reverse) (fun vs zs => vs ++ zs.reverse) := by
  obtain ⟨its, h⟩ := T.F_Number_init.kbindsD (ps := ["self", "top", "bottom"]) 1 ["bottom", "top"] (fun us _ ws => us ++ ws.reverse) (by simp) (fun r1 _ r3 => r1.append r3.reverse) (fun T' kV dc pm an cd ct us its ws h1 h2 h3 => by
    match us, h1, its, h2, ws, h3 with
    | [_], _, [_], _, [_, _], _ => exact ⟨_, rfl, rfl⟩)
  exact ⟨its, h⟩
def spRight (K : PySem.W.Frag) : Sp := fun vs H Q _ => ∃ (y1 y2 : V) (o1 o2 : Option Int) (d1 d2 : PyData), vs = [y1, y2] ∧ Any1 K H y1 o1 d1 ∧ Any1 K H y2 o2 d2 ∧ LamX.Tabs TL H ∧ ∀ H', EN H H' → LamX.Tabs TL H' → Q (.bl true) H'
theorem ok_law_is_right (T : Txt K mg A) (TB : ∀ c, PySem.W.codeHdIn K c 263 = true → LamX.TabB base mg c 263) : FnG PP w K mg base CX0 8 A.f_law_is_right A.d_law_is_right ["above", "below"] (spRight K) := by
  obtain ⟨oc, od, kV, doc, pm, an, c, ct, osl, hfd, lk, hc, hcc⟩ := T.lam_law_is_right
  obtain ⟨och, odh, kVh, doch, pmh, anh, cdh, cth, oslh, hfh, lkh, hch⟩ := T.F_law_heard.ex
  have bh := T.b_law_heard
  rw [hfh] at lkh bh
  rw [hfd] at lk ⊢
  obtain ⟨its, kbN⟩ := kb_Number T
  obtain ⟨ds, r1N, b1N⟩ := b1_Number T
  refine fnG_of (N := N_law_is_right) lk hc sc_law_is_right (fun vs H Q E h => ?_) (fun B outer s H vs Q E hG hr h => ?_)
  · obtain ⟨y1, y2, o1, o2, d1, d2, rfl, _⟩ := h
    rfl
  · obtain ⟨y1, y2, o1, o2, d1, d2, rfl, a1, a2, tb, k⟩ := h
    have go : ∃ t, PSs (cxOf CX0 PP w K mg base N_law_is_right "_law_is_right" (defScope s_law_is_right) A.f_law_is_right (.ref c) B outer s H E).nox (defBody s_law_is_right) t ∧ t { nx := fun _ H1 => Q .non H1, rt := Q } (start N_law_is_right [y1, y2]) H := ?go
    · obtain ⟨t, h1, h2⟩ := go
      exact ⟨t, h1.nox, h2⟩
    have hr1 : Room 1 _ := hr.mono (by decide)
    refine ⟨_, (Evl.pss_cut (ps_set (i := 2) sc_law_is_right.nd rfl (Or.inl rfl) (pe_and (pe_call (ok_law_is_int T) hr1 rfl T.g_law_is_int T.F_law_is_int.kp T.b_law_is_int .nil pass0 (pa_cons (pv 0) pa_nil)) (pe_and (pe_call (ok_law_is_int T) hr1 rfl T.g_law_is_int T.F_law_is_int.kp T.b_law_is_int .nil pass0 (pa_cons (pv 1) pa_nil)) (pe_one (pe_cmpR op_ne (pv 1) pe_int (nomark _))))))
      (Evl.pss_cut (ps_set (i := 3) sc_law_is_right.nd rfl (Or.inl rfl) (pe_ifExp (pt_val (pv 2)) (pe_tup (pa_cons pe_str (pa_cons (pe_call (ok_law_least T) hr1 rfl T.g_law_least T.F_law_least.kp T.b_law_least .nil pass0 (pa_cons (pv 0) (pa_cons (pv 1) pa_nil))) pa_nil))) (pe_tup (pa_cons pe_str (pa_cons (pe_tup (pa_cons (pv 0) (pa_cons (pv 1) pa_nil))) pa_nil)))))
      (pss_cons (ps_set (i := 4) sc_law_is_right.nd rfl (Or.inl rfl) (pe_lst (pa_cons (LamX.pe_lamcall (T := TL) (TT := TTHeard A) (k := 4) rfl T.g_law_heard T.F_law_heard.kp lkh hch bh sc_law_heard rfl (Or.inl rfl) (heard_gives T (hr.mono (by decide)) _ _ _) (TB c hcc) rfl (List.mem_singleton.mpr rfl) (fun p hp _ => (List.mem_singleton.mp hp) ▸ rfl) (hr.mono (by decide)) (show LamX.LamS (defScope s_law_is_right) _ from LamX.lamS_by (by decide +kernel)) rfl (fun _ _ _ _ _ => rfl) (fun _ _ _ _ _ _ _ hr2 => pe_make T.M_Number (ok_Number_initX T) hr2 rfl T.g_Number (b_NumberX T) .nil (passes_call takes_lam (fun _ _ _ _ h => h)) (pa_cons (pv 0) (pa_cons (pv 1) pa_nil)))) pa_nil)))
      (pss_cons (ps_expr (pe_bm PySem.F.plainAttrs_list PySem.F.slot_list_append PySem.F.type_list_append mt_append (pv 4) (pa_cons (LamX.pe_lamcall (T := TL) (TT := TTHeard A) (k := 4) rfl T.g_law_heard T.F_law_heard.kp lkh hch bh sc_law_heard rfl (Or.inl rfl) (heard_gives T (hr.mono (by decide)) _ _ _) (TB c hcc) rfl (List.mem_singleton.mpr rfl) (fun p hp _ => (List.mem_singleton.mp hp) ▸ rfl) (hr.mono (by decide)) (show LamX.LamS (defScope s_law_is_right) _ from LamX.lamS_by (by decide +kernel)) rfl (fun _ _ _ _ _ => rfl) (fun _ _ _ _ _ _ _ hr2 => pe_makeK0 T.M_Number (ok_Number_initX T) hr2 rfl T.g_Number kbN (passes_call takes_lam (fun _ _ _ _ h => h)) (pk_cons (pv 1) (pk_cons (pv 0) pk_nil)))) pa_nil)))
      (pss_cons (ps_if (pt_cmpR op_ne (pe_callB (call_reprK hG hr.units) (by rfl) T.z_repr (by decide +kernel) (pa_cons (pv 4) pa_nil)) (pe_callB (call_reprK hG hr.units) (by rfl) T.z_repr (by decide +kernel) (pa_cons (pe_lst (pa_cons (pv 3) (pa_cons (pv 3) pa_nil))) pa_nil)) (nomark _)) (pss_one (ps_ret pe_bl)) pss_nil)
      (Evl.pss_cut (ps_set (i := 3) sc_law_is_right.nd rfl (Or.inl rfl) (pe_ifExp (pt_val (pe_call (ok_law_is_int T) hr1 rfl T.g_law_is_int T.F_law_is_int.kp T.b_law_is_int .nil pass0 (pa_cons (pv 0) pa_nil))) (pe_tup (pa_cons pe_str (pa_cons (pe_tup (pa_cons (pv 0) (pa_cons pe_int pa_nil))) pa_nil))) (pe_tup (pa_cons pe_str (pa_cons (pe_tup (pa_cons (pv 0) (pa_cons pe_int pa_nil))) pa_nil)))))
      (pss_one (ps_ret (pe_cmpR op_eq (pe_callB (call_reprK hG hr.units) (by rfl) T.z_repr (by decide +kernel) (pa_cons (LamX.pe_lamcall (T := TL) (TT := TTHeard A) (k := 4) rfl T.g_law_heard T.F_law_heard.kp lkh hch bh sc_law_heard rfl (Or.inl rfl) (heard_gives T (hr.mono (by decide)) _ _ _) (TB c hcc) rfl (List.mem_singleton.mpr rfl) (fun p hp _ => (List.mem_singleton.mp hp) ▸ rfl) (hr.mono (by decide)) (show LamX.LamS (defScope s_law_is_right) _ from LamX.lamS_by (by decide +kernel)) rfl (fun _ _ _ _ _ => rfl) (fun _ _ _ _ _ _ _ hr2 => pe_make T.M_Number (ok_Number_initX T) hr2 rfl T.g_Number b1N r1N (passes_call takes_lam (fun _ _ _ _ h => h)) (pa_cons (pv 0) pa_nil))) pa_nil)) (pe_callB (call_reprK hG hr.units) (by rfl) T.z_repr (by decide +kernel) (pa_cons (pv 3) pa_nil)) (nomark _)))))))))), ?_⟩
    refine ⟨fun σ' H' => σ' = [some y1, some y2, some (.bl (fine o1 o2)), none, none] ∧ H = H', ?_, ?_⟩
    · refine ⟨_, rfl, y1, o1, rfl, a1.it, _, rfl, ?_⟩
      cases o1 with
      | none => exact iteF' rfl ⟨rfl, rfl⟩
      | some a =>
        refine iteT' rfl ?_
        refine ⟨_, rfl, y2, o2, rfl, a2.it, _, rfl, ?_⟩
        cases o2 with
        | none => exact iteF' rfl ⟨rfl, rfl⟩
        | some b =>
          refine iteT' rfl ?_
          have e := a2.it.1
          subst e
          refine ⟨_, rfl, rfl, ⟨?_, rfl⟩⟩
          have e : (!decide (V.int b = V.int 0)) = fine (some a) (some b) := by
            by_cases hb : b = 0
            · rw [dint_eq hb]
              simp [fine, hb]
            · rw [dint_ne hb]
              simp [fine, hb]
          rw [e]
          rfl
    rintro σ' H' ⟨rfl, rfl⟩
    refine ⟨fun σ' H' => ∃ r, σ' = [some y1, some y2, some (.bl (fine o1 o2)), some (.ref r), none] ∧ Same H H' ∧ Res H' r y1 y2 o1 o2, ?_, ?_⟩
    · refine ⟨_, rfl, _, rfl, ?_⟩
      cases hf : fine o1 o2 with
      | true =>
        match o1, o2, hf, a1, a2 with
        | some a, some b, hf, a1, a2 =>
          have hb : b ≠ 0 := by simpa [fine] using hf
          refine iteT' rfl ?_
          have e1 := a1.it.1
          have e2 := a2.it.1
          have bb := a2.it.2
          subst e1 e2
          exact ⟨_, rfl, _, rfl, a, b, rfl, hb, up_lt bb (by decide), fun r0 H1 s1 n1 e1 => ⟨by show 2 ≤ sizeLine; decide, fun r nr => ⟨r, rfl, s1.trans (same_new nr), r0, _, _, upd_same, same_new nr _ _ e1, .inr ⟨a, b, rfl, rfl, hb, rfl, rfl⟩⟩⟩⟩
      | false =>
        refine iteF' rfl ?_
        exact ⟨_, rfl, _, rfl, by show 2 ≤ sizeLine; decide, fun t nt => ⟨by show 2 ≤ sizeLine; decide, fun r nr => ⟨r, rfl, (same_new nt).trans (same_new nr), t, _, _, upd_same, same_new nr _ _ upd_same, .inl ⟨hf, rfl, rfl⟩⟩⟩⟩
    rintro σ' H1 ⟨r, rfl, s1, res⟩
    have a1 := a1.en (Same.en s1)
    have a2 := a2.en (Same.en s1)
    have tb := tb.ext s1
    have en := (Same.en s1)
    clear s1
    refine ⟨tb, fun H2 en2 tb2 => heardN (y1 := y1) (y2 := y2) (o1 := o1) (o2 := o2) (fun H0 E Qv s0 hE hQ => ?_) (fun q H3 s3 rq => ?_)⟩
    · refine ⟨_, rfl, _, rfl, fun x dx nx ndx nex => ?_⟩
      exact num_made nx ndx ((a1.it.en en2).en (Same.en s0)) ((a2.it.en en2).en (Same.en s0)) hE hQ
    refine ⟨by show 1 ≤ sizeLine; decide, fun l nl => ?_⟩
    have sl := same_new (o := .lst [.ref q]) nl
    have el : (upd H3 l (.lst [.ref q])) l = some (.lst [.ref q]) := upd_same
    have nl2 : H2 l = none := by
      cases z : H2 l with
      | none => rfl
      | some o =>
        have := s3 _ _ z
        rw [nl] at this
        cases this
    generalize upd H3 l (.lst [.ref q]) = H4 at *
    have rq := rq.en (Same.en sl)
    have e24 : EN H2 H4 := (Same.en (s3.trans sl))
    have res := res.en (en2.trans e24)
    have a1 := a1.en en2
    have a2 := a2.en en2
    have tb := (tb2.ext s3).ext sl
    have en := en.trans en2
    clear tb2 en2 s3 sl nl
    refine stT (σ' := [some y1, some y2, some (.bl (fine o1 o2)), some (.ref r), some (.ref l)]) rfl ?_
    refine ⟨_, rfl, .inl ⟨rfl, _, SqL.of el⟩, tb, fun H5 en5 tb5 => heardN (y1 := y1) (y2 := y2) (o1 := o1) (o2 := o2) (fun H0 E Qv s0 hE hQ => ?_) (fun q2 H6 s6 rq2 => ?_)⟩
    · refine ⟨_, rfl, _, rfl, rfl, rfl, fun x dx nx ndx nex => ?_⟩
      exact num_made nx ndx (((a1.it.en e24).en en5).en (Same.en s0)) (((a2.it.en e24).en en5).en (Same.en s0)) hE hQ
    have e46 : EN H4 H6 := en5.trans (Same.en s6)
    have el := e46 _ _ el (fun _ z => nomatch z)
    refine ⟨l, [.ref q], .ref q2, rfl, rfl, el, (by show 1 < sizeLine; decide), ?_⟩
    have e27 : EN H2 (upd H6 l (.lst ([.ref q] ++ [.ref q2]))) := fun b o h t => by
      rw [upd_ne (fun z => by rw [z, nl2] at h; cases h)]
      exact e46 _ _ (e24 _ _ h t) t
    have rq := (rq.en e46).upl (o := .lst ([.ref q] ++ [.ref q2])) el
    have rq2 := rq2.upl (o := .lst ([.ref q] ++ [.ref q2])) el
    have res := (res.en e46).upl (o := .lst ([.ref q] ++ [.ref q2])) el
    have tb : LamX.Tabs TL (upd H6 l (.lst ([.ref q] ++ [.ref q2]))) := tabs_upl (tb5.ext s6) el
    have el : (upd H6 l (.lst ([.ref q] ++ [.ref q2]))) l = some (.lst [.ref q, .ref q2]) := upd_same
    generalize upd H6 l (.lst ([.ref q] ++ [.ref q2])) = H7 at *
    have a1 := a1.en e27
    have a2 := a2.en e27
    have en := en.trans e27
    clear e27 e46 e24 tb5 en5 s6 nl2
    have hd := due_sh a1 a2
    have hl : Sh (.list [dueD o1 o2 d1 d2, dueD o1 o2 d1 d2]) 27000 43 := (Sh.list (k := 42) (List.forall_mem_cons.mpr ⟨hd, List.forall_mem_cons.mpr ⟨hd, List.forall_mem_nil _⟩⟩)).mono (by show (13000 + 2) * 2 + 3 ≤ 27000; decide) (by decide)
    refine ⟨_, rfl, l, .list [dueD o1 o2 d1 d2, dueD o1 o2 d1 d2], 27000, 43, rfl, .lst (SqL.of el) (.cons (rq.dk a1 a2) (.cons (rq2.dk a1 a2) .nil)), rfl, hl, by decide, by decide, ?_⟩
    refine ⟨_, rfl, _, rfl, by show 2 ≤ sizeLine; decide, fun m nm => ?_⟩
    have sm := same_new (o := .lst [.ref r, .ref r]) nm
    have em : (upd H7 m (.lst [.ref r, .ref r])) m = some (.lst [.ref r, .ref r]) := upd_same
    generalize upd H7 m (.lst [.ref r, .ref r]) = H8 at *
    have a1 := a1.en (Same.en sm)
    have a2 := a2.en (Same.en sm)
    have res := res.en (Same.en sm)
    have tb := tb.ext sm
    have en := en.trans (Same.en sm)
    clear sm rq rq2 el nm
    refine ⟨m, .list [dueD o1 o2 d1 d2, dueD o1 o2 d1 d2], 27000, 43, rfl, .lst (SqL.of em) (.cons (res.dk a1 a2) (.cons (res.dk a1 a2) .nil)), rfl, hl, by decide, by decide, rfl, _, rfl, ?_⟩
    rw [nes rfl]
    refine iteF ?_
    refine ⟨fun σ' H' => ∃ r2, σ' = [some y1, some y2, some (.bl (fine o1 o2)), some (.ref r2), some (.ref l)] ∧ Same H8 H' ∧ Res H' r2 y1 (.int 1) o1 (some 1), ?_, ?_⟩
    · refine ⟨_, rfl, y1, o1, rfl, a1.it, _, rfl, ?_⟩
      cases o1 with
      | some a =>
        refine iteT' rfl ?_
        have e1 := a1.it.1
        subst e1
        exact ⟨_, rfl, by show 2 ≤ sizeLine; decide, fun t nt => ⟨by show 2 ≤ sizeLine; decide, fun r2 nr => ⟨r2, rfl, (same_new nt).trans (same_new nr), t, _, _, upd_same, same_new nr _ _ upd_same, .inr ⟨a, 1, rfl, rfl, by decide, rfl, by rw [(num_one a).1, (num_one a).2]; rfl⟩⟩⟩⟩
      | none =>
        refine iteF' rfl ?_
        exact ⟨_, rfl, by show 2 ≤ sizeLine; decide, fun t nt => ⟨by show 2 ≤ sizeLine; decide, fun r2 nr => ⟨r2, rfl, (same_new nt).trans (same_new nr), t, _, _, upd_same, same_new nr _ _ upd_same, .inl ⟨rfl, rfl, rfl⟩⟩⟩⟩
    rintro σ' H9 ⟨r2, rfl, s9, res2⟩
    have a1 := a1.en (Same.en s9)
    have tb := tb.ext s9
    have en := en.trans (Same.en s9)
    clear a2 res em s9
    refine ⟨tb, fun H10 en10 tb10 => heardN (y1 := y1) (y2 := .int 1) (o1 := o1) (o2 := some 1) (fun H0 E Qv s0 hE hQ => ?_) (fun q H11 s11 rq => ?_)⟩
    · refine ⟨_, rfl, fun x dx nx ndx nex => ?_⟩
      exact num_made nx ndx ((a1.it.en en10).en (Same.en s0)) one_it hE hQ
    have e911 := en10.trans (Same.en s11)
    have a1 := a1.en e911
    have res2 := res2.en e911
    have ho : Any1 K H11 (.int 1) (some 1) (.int 1) := ⟨one_it, int_dk (by decide +kernel), int_sh (by decide +kernel), to_int 1⟩
    refine ⟨q, dueD o1 (some 1) d1 (.int 1), 13000, 42, rfl, rq.dk a1 ho, due_seq, due_sh a1 ho, by decide, by decide, ?_⟩
    refine ⟨_, rfl, r2, dueD o1 (some 1) d1 (.int 1), 13000, 42, rfl, res2.dk a1 ho, due_seq, due_sh a1 ho, by decide, by decide, rfl, ?_⟩
    rw [decide_eq_true rfl]
    exact k _ (en.trans e911) (tb10.ext s11)
end
/-! ### k01: the law -/
theorem Pot.en {H H' : Hp} {p : Addr} {n : Nat} (h : Pot H p n) (s : EN H H') : Pot H' p n := by
  obtain ⟨own, mix, c, e, h⟩ := h
  exact ⟨own, mix, c, s _ _ e (fun _ z => nomatch z), h⟩
theorem EN.eb {H H' : Hp} {p : Addr} (s : EN H H') : EB p H H' := fun b o e _ t => s b o e t
theorem tabs_but {H H' : Hp} {p : Addr} (t : LamX.Tabs TL H) (s : SameBut p H H') (hp : ∃ xs, H p = some (.lst xs)) : LamX.Tabs TL H' := fun q hq => by
  obtain ⟨xs, ep⟩ := hp
  obtain ⟨ps, h1, h2, h3⟩ := t q hq
  have n1 : q.1 ≠ p := fun z => by
    rw [z, ep] at h1
    cases h1
  refine ⟨ps, s _ _ h1 n1, h2, fun pos cv hc => ?_⟩
  obtain ⟨c, e1, e2⟩ := h3 pos cv hc
  have n2 : c ≠ p := fun z => by
    rw [z, ep] at e2
    cases e2
  exact ⟨c, e1, s _ _ e2 n2⟩
theorem seq_eb {K : PySem.W.Frag} {H H1 Hh : Hp} {a p : Addr} {xs : List V} (h : SqL K H a xs) (n : H p = none) (s : Same H H1) (z : EB p H1 Hh) : SqL K Hh a xs := by
  rcases h with (h | ⟨o, h⟩) | h
  · exact .inl (.inl (z _ _ (s _ _ h) (ne_of_none h n) (fun _ z => nomatch z)))
  · exact .inl (.inr ⟨o, z _ _ (s _ _ h) (ne_of_none h n) (fun _ z => nomatch z)⟩)
  · exact .inr h
theorem any_int {K : PySem.W.Frag} {H : Hp} {n : Int} (h : n.natAbs < 2 ^ 300) : Any1 K H (.int n) (some n) (.int n) := ⟨⟨rfl, h⟩, int_dk h, int_sh h, to_int n⟩
theorem any_true {K : PySem.W.Frag} {H : Hp} : Any1 K H (.bl true) none (.bool true) := ⟨no_ty (b1 := true) (b2 := true) (fun _ _ => .base (.bl true)) (kit_ty (by decide +kernel)) (kit_ty (by decide +kernel)) rfl, .bl _, ⟨by decide, by decide +kernel⟩, fun _ e => nomatch e⟩
def spLaw (K : PySem.W.Frag) : Sp := fun vs H Q _ => ∃ (a : Addr) (ns : List Int), vs = [.ref a] ∧ SqL K H a (ns.map V.int) ∧ ns.length ≤ 63 ∧ H 263 = some (.tbl #[]) ∧ ∀ H', Q (.bl true) H'
section
variable {w : World} {K : PySem.W.Frag} {mg : Str → Option Value} {base : Heap} {A : Ad}
theorem turns3 (n : Int) : (if (if n < 3 then n else 3) > 1 then (if n < 3 then n else 3) else 1) ≤ 3 ∧ 1 ≤ (if (if n < 3 then n else 3) > 1 then (if n < 3 then n else 3) else 1) := by
  constructor <;> (repeat (first | split | omega))
theorem ok_law (T : Txt K mg A) (TB : ∀ c, PySem.W.codeHdIn K c 263 = true → LamX.TabB base mg c 263) : FnG PP w K mg base CX0 9 A.f_law A.d_law ["script"] (spLaw K) := by
  refine okG T.F_law sc_law (fun vs H Q E h => ?_) (fun cdv B outer s H vs Q E hG hr h => ?_)
  · obtain ⟨a, ns, rfl, _⟩ := h
    rfl
  · obtain ⟨a, ns, rfl, hS, hlen, hT, k⟩ := h
    have hr1 : Room 1 _ := hr.mono (by decide)
    have hr3 : Room 3 _ := hr.mono (by decide)
    have hr8 : Room 8 _ := hr.mono (by decide)
    refine ⟨_, (pss_cons (ps_for PassesOwn.never rfl (pi_range1 rfl T.z_range (pa_cons (pe_callB (call_max2 rfl) (by rfl) T.z_max (by decide +kernel) (pa_cons pe_int (pa_cons (pe_callB (call_min2 rfl) (by rfl) T.z_min (by decide +kernel) (pa_cons pe_int (pa_cons (pe_callB call_len_seq (by rfl) T.z_len (by decide +kernel) (pa_cons (pv 0) pa_nil)) pa_nil))) pa_nil))) pa_nil)) (pg_name (i := 1) sc_law.nd rfl (Or.inl rfl))
      (pss_cons (ps_set (i := 2) sc_law.nd rfl (Or.inl rfl) (pe_call (ok_law_pot T) hr1 rfl T.g_law_pot T.F_law_pot.kp T.b_law_pot .nil pass0 (pa_cons (pv 0) (pa_cons (pv 1) pa_nil))))
      (pss_one (ps_for PassesOwn.never rfl (pi_range1 rfl T.z_range (pa_cons pe_int pa_nil)) (pg_name (i := 3) sc_law.nd rfl (Or.inl rfl))
      (pss_one (ps_if (pt_not (pt_val (pe_callG (ok_law_is_right T TB) hG hr8 rfl T.g_law_is_right T.F_law_is_right.kp T.b_law_is_right pass0 (pa_cons (pe_call (ok_law_any T) hr3 rfl T.g_law_any T.F_law_any.kp T.b_law_any .nil pass0 (pa_cons (pv 2) pa_nil)) (pa_cons (pe_call (ok_law_any T) hr3 rfl T.g_law_any T.F_law_any.kp T.b_law_any .nil pass0 (pa_cons (pv 2) pa_nil)) pa_nil))))) (pss_one (ps_ret pe_bl)) pss_nil))))))
      (pss_one (ps_ret (pe_and (pe_callG (ok_law_is_right T TB) hG hr8 rfl T.g_law_is_right T.F_law_is_right.kp T.b_law_is_right pass0 (pa_cons pe_int (pa_cons pe_int pa_nil))) (pe_and (pe_callG (ok_law_is_right T TB) hG hr8 rfl T.g_law_is_right T.F_law_is_right.kp T.b_law_is_right pass0 (pa_cons pe_int (pa_cons (pe_un un_neg pe_int) pa_nil))) (pe_and (pe_callG (ok_law_is_right T TB) hG hr8 rfl T.g_law_is_right T.F_law_is_right.kp T.b_law_is_right pass0 (pa_cons pe_bl (pa_cons pe_int pa_nil))) (pe_one (pe_callG (ok_law_is_right T TB) hG hr8 rfl T.g_law_is_right T.F_law_is_right.kp T.b_law_is_right pass0 (pa_cons pe_int (pa_cons (pe_un un_neg pe_int) pa_nil)))))))))), ?_⟩
    have tb0 : LamX.Tabs TL H := fun p hp => by
      rw [List.mem_singleton.mp hp]
      exact LamX.TabS.nil hT
    refine ⟨_, rfl, a, _, rfl, Or.inl hS, _, _, rfl, _, _, rfl, _, rfl, ?_⟩
    have h3 := turns3 ((ns.map V.int).length : Int)
    generalize (if (if ((ns.map V.int).length : Int) < 3 then ((ns.map V.int).length : Int) else 3) > 1 then (if ((ns.map V.int).length : Int) < 3 then ((ns.map V.int).length : Int) else 3) else 1) = j at *
    refine ⟨by omega, by omega, for_range (lo := 0) (n := j.toNat) (fun i σ H' => ∃ v1 v2 v3, σ = [some (.ref a), v1, v2, v3] ∧ SqL K H' a (ns.map V.int) ∧ LamX.Tabs TL H') ⟨_, _, _, rfl, hS, tb0⟩ ?_ ?_⟩
    · rintro i σ H' hi ⟨v1, v2, v3, rfl, hS, tb⟩
      refine ⟨_, rfl, _, rfl, a, ns, _, rfl, hS, by omega, by omega, fun p H1 s1 np hP => ?_⟩
      have tb := tb.ext s1
      have seq : ∀ Hh, EB p H1 Hh → SqL K Hh a (ns.map V.int) := fun Hh z => seq_eb hS np s1 z
      clear hS s1 np
      refine stT (σ' := [some (.ref a), some (.int (0 + (i : Int))), some (.ref p), v3]) rfl ?_
      refine ⟨10, rfl, by decide, by decide, for_range (lo := 0) (n := 10) (fun i2 σ Hh => ∃ v3, σ = [some (.ref a), some (.int (0 + (i : Int))), some (.ref p), v3] ∧ EB p H1 Hh ∧ LamX.Tabs TL Hh ∧ Pot Hh p (56 * i2)) ⟨_, rfl, EB.refl _ _, tb, hP⟩ ?_ ?_⟩
      · rintro i2 σ Hh hi2 ⟨v3, rfl, zz, tb, hPh⟩
        refine ⟨_, rfl, p, 56 * i2, rfl, hPh, (by omega), fun y1 H2 o1 d1 a1 P2 s2 => ⟨_, rfl, p, 56 * i2 + 28, rfl, P2, (by omega), fun y2 H3 o2 d2 a2 P3 s3 => ?_⟩⟩
        have tb := tabs_but tb s2 hPh.lst
        have tb := tabs_but tb s3 P2.lst
        refine ⟨y1, y2, o1, o2, d1, d2, rfl, a1 H3 s3.eb, a2 H3 (EB.refl _ _), tb, fun H4 en4 tb4 => ⟨_, rfl, iteF' rfl ⟨_, rfl, ((zz.trans s2.eb).trans s3.eb).trans (EN.eb en4), tb4, (P3.en en4).mono (by omega)⟩⟩⟩
      · rintro σ Hh ⟨v3, rfl, zz, tb, hPh⟩
        exact ⟨_, _, _, rfl, seq Hh zz, tb⟩
    · rintro σ H' ⟨v1, v2, v3, rfl, hS, tb⟩
      refine ⟨.int 0, .int 0, some 0, some 0, .int 0, .int 0, rfl, any_int (by decide +kernel), any_int (by decide +kernel), tb, fun H2 _ tb => ⟨_, rfl, iteT' rfl ?_⟩⟩
      refine ⟨_, rfl, .int 0, .int (-5), some 0, some (-5), .int 0, .int (-5), rfl, any_int (by decide +kernel), any_int (by decide +kernel), tb, fun H3 _ tb => ⟨_, rfl, iteT' rfl ?_⟩⟩
      refine ⟨.bl true, .int 1, none, some 1, .bool true, .int 1, rfl, any_true, any_int (by decide +kernel), tb, fun H4 _ tb => ⟨_, rfl, iteT' rfl ?_⟩⟩
      exact ⟨_, rfl, .int 6, .int (-4), some 6, some (-4), .int 6, .int (-4), rfl, any_int (by decide +kernel), any_int (by decide +kernel), tb, fun H5 _ tb => k _⟩
end
theorem all_mk {K : PySem.W.Frag} {h : Heap} {mg : Str → Option Value} (X : K.In h) (G : h.Ns mainGlobals mg)
    {c_SpeedError : Addr}
    {c_BadNumber : Addr}
    {c_BadStretch : Addr}
    {c_BadText : Addr}
    {c_Number : Addr}
    {f_BadNumber_init : Addr}
    {nm_BadNumber : Str}
    {qn_BadNumber : Str}
    {Ns_BadNumber : Addr}
    {bs_BadNumber : List Value}
    {bm_BadNumber : List Value}
    {sn_BadNumber : List Str}
    {sub_BadNumber : List Value}
    {ab_BadNumber : Bool}
    {col_BadNumber : Option Bool}
    {dd_BadNumber : Option Addr}
    {k0_BadNumber : Option Value}
    {k1_BadNumber : Option Value}
    {k2_BadNumber : Option Value}
    {k3_BadNumber : Option Value}
    {k5_BadNumber : Option Value}
    {oc_BadNumber : Value}
    {od_BadNumber : Option Addr}
    {an_BadNumber : Option Addr}
    {osl_BadNumber : Array (Option Value)}
    {kV_BadNumber : Value}
    {dc_BadNumber : Value}
    {pm_BadNumber : Value}
    {ct_BadNumber : Value}
    {cda_BadNumber : Addr}
    {cc_BadNumber : Addr}
    {ccl_BadNumber : Value}
    {cdd_BadNumber : Option Addr}
    {cvs_BadNumber : Array Value}
    {ccs_BadNumber : Array (Option Value)}
    {file_BadNumber : Str}
    {tf_BadNumber : Tok}
    {cl_BadNumber : Value}
    {cld_BadNumber : Option Addr}
    {csl_BadNumber : Array (Option Value)}
    {f_is_integer : Addr}
    {oc_is_integer : Value}
    {kV_is_integer : Value}
    {dc_is_integer : Value}
    {pm_is_integer : Value}
    {cd_is_integer : Value}
    {ct_is_integer : Value}
    {od_is_integer : Option Addr}
    {an_is_integer : Option Addr}
    {osl_is_integer : Array (Option Value)}
    {f_shared_divisor : Addr}
    {oc_shared_divisor : Value}
    {kV_shared_divisor : Value}
    {dc_shared_divisor : Value}
    {pm_shared_divisor : Value}
    {cd_shared_divisor : Value}
    {ct_shared_divisor : Value}
    {od_shared_divisor : Option Addr}
    {an_shared_divisor : Option Addr}
    {osl_shared_divisor : Array (Option Value)}
    {f_Number_init : Addr}
    {oc_Number_init : Value}
    {kV_Number_init : Value}
    {dc_Number_init : Value}
    {pm_Number_init : Value}
    {cd_Number_init : Value}
    {ct_Number_init : Value}
    {od_Number_init : Option Addr}
    {an_Number_init : Option Addr}
    {osl_Number_init : Array (Option Value)}
    {T_Number_init : Addr}
    {t_Number_init_0 : Tok}
    {oT_Number_init : Value}
    {dT_Number_init : Option Addr}
    {nT_Number_init : Nat}
    {sT_Number_init : Array (Option Value)}
    {f_Number_top : Addr}
    {p_Number_top : Addr}
    {r_Number_top : List Value}
    {oc_Number_top : Value}
    {kV_Number_top : Value}
    {dc_Number_top : Value}
    {pm_Number_top : Value}
    {cd_Number_top : Value}
    {ct_Number_top : Value}
    {od_Number_top : Option Addr}
    {an_Number_top : Option Addr}
    {osl_Number_top : Array (Option Value)}
    {f_Number_bottom : Addr}
    {p_Number_bottom : Addr}
    {r_Number_bottom : List Value}
    {oc_Number_bottom : Value}
    {kV_Number_bottom : Value}
    {dc_Number_bottom : Value}
    {pm_Number_bottom : Value}
    {cd_Number_bottom : Value}
    {ct_Number_bottom : Value}
    {od_Number_bottom : Option Addr}
    {an_Number_bottom : Option Addr}
    {osl_Number_bottom : Array (Option Value)}
    {f_law_pot : Addr}
    {oc_law_pot : Value}
    {kV_law_pot : Value}
    {dc_law_pot : Value}
    {pm_law_pot : Value}
    {cd_law_pot : Value}
    {ct_law_pot : Value}
    {od_law_pot : Option Addr}
    {an_law_pot : Option Addr}
    {osl_law_pot : Array (Option Value)}
    {f_law_take : Addr}
    {oc_law_take : Value}
    {kV_law_take : Value}
    {dc_law_take : Value}
    {pm_law_take : Value}
    {cd_law_take : Value}
    {ct_law_take : Value}
    {od_law_take : Option Addr}
    {an_law_take : Option Addr}
    {osl_law_take : Array (Option Value)}
    {f_law_of : Addr}
    {oc_law_of : Value}
    {kV_law_of : Value}
    {dc_law_of : Value}
    {pm_law_of : Value}
    {cd_law_of : Value}
    {ct_law_of : Value}
    {od_law_of : Option Addr}
    {an_law_of : Option Addr}
    {osl_law_of : Array (Option Value)}
    {f_law_least : Addr}
    {oc_law_least : Value}
    {kV_law_least : Value}
    {dc_law_least : Value}
    {pm_law_least : Value}
    {cd_law_least : Value}
    {ct_law_least : Value}
    {od_law_least : Option Addr}
    {an_law_least : Option Addr}
    {osl_law_least : Array (Option Value)}
    {f_law_any : Addr}
    {oc_law_any : Value}
    {kV_law_any : Value}
    {dc_law_any : Value}
    {pm_law_any : Value}
    {cd_law_any : Value}
    {ct_law_any : Value}
    {od_law_any : Option Addr}
    {an_law_any : Option Addr}
    {osl_law_any : Array (Option Value)}
    {f_law_is_int : Addr}
    {oc_law_is_int : Value}
    {kV_law_is_int : Value}
    {dc_law_is_int : Value}
    {pm_law_is_int : Value}
    {cd_law_is_int : Value}
    {ct_law_is_int : Value}
    {od_law_is_int : Option Addr}
    {an_law_is_int : Option Addr}
    {osl_law_is_int : Array (Option Value)}
    {f_law_heard : Addr}
    {oc_law_heard : Value}
    {kV_law_heard : Value}
    {dc_law_heard : Value}
    {pm_law_heard : Value}
    {cd_law_heard : Value}
    {ct_law_heard : Value}
    {od_law_heard : Option Addr}
    {an_law_heard : Option Addr}
    {osl_law_heard : Array (Option Value)}
    {f_law_is_right : Addr}
    {oc_law_is_right : Value}
    {kV_law_is_right : Value}
    {dc_law_is_right : Value}
    {pm_law_is_right : Value}
    {ct_law_is_right : Value}
    {od_law_is_right : Option Addr}
    {an_law_is_right : Option Addr}
    {osl_law_is_right : Array (Option Value)}
    {ca_law_is_right : Addr}
    {f_law : Addr}
    {oc_law : Value}
    {kV_law : Value}
    {dc_law : Value}
    {pm_law : Value}
    {cd_law : Value}
    {ct_law : Value}
    {od_law : Option Addr}
    {an_law : Option Addr}
    {osl_law : Array (Option Value)}
    (a_SpeedError : PySem.W.nsIn K mainGlobals "SpeedError" = some (some (.ref c_SpeedError)))
    (a_BadNumber : PySem.W.nsIn K mainGlobals "BadNumber" = some (some (.ref c_BadNumber)))
    (a_BadStretch : PySem.W.nsIn K mainGlobals "BadStretch" = some (some (.ref c_BadStretch)))
    (a_BadText : PySem.W.nsIn K mainGlobals "BadText" = some (some (.ref c_BadText)))
    (a_Number : PySem.W.nsIn K mainGlobals "Number" = some (some (.ref c_Number)))
    (pg_Number : PySem.W.plainGet K c_Number Str.empty = true)
    (hd_Number : PySem.W.hasDictIn K c_Number = true)
    (po_Number : PySem.W.plainOver K c_Number = true)
    (sa_Number : PySem.W.findIn K (.ref c_Number) "__setattr__" = some (some (.builtin "object.__setattr__")))
    (mk_Number : PySem.W.makesIn K c_Number = true)
    (kc_Number : PySem.W.keepIn K (.ref c_Number) = true)
    (sf_Number : PySem.W.selfFirst K c_Number = true)
    (ca_Number : PySem.W.findIn K (.ref c_Number) "__class__" = some (some (.builtin "object.__class__")))
    (cm_Number : PySem.W.mroIn K c_Number (.type "object") = some true)
    (n_Number_own_top : PySem.W.findIn K (.ref c_Number) "own_top" = some none)
    (n_Number_own_bottom : PySem.W.findIn K (.ref c_Number) "own_bottom" = some none)
    (cn : PySem.W.specialIn K (.builtin "object.__class__") "__get__" = some (some (.builtin "getset_descriptor.__get__")))
    (ct : PySem.W.takesIn K (.builtin "object.__class__") = some true)
    (z_super : PySem.W.nsIn K mainGlobals "super" = some none)
    (tp_any : PySem.W.nsIn K PySem.cStatics "thirdparty.any" = some none)
    (lC_BadNumber : K.lookup c_BadNumber = some (excClassObj nm_BadNumber qn_BadNumber c_BadNumber Ns_BadNumber bs_BadNumber bm_BadNumber true sn_BadNumber sub_BadNumber ab_BadNumber col_BadNumber dd_BadNumber k0_BadNumber k1_BadNumber k2_BadNumber k3_BadNumber k5_BadNumber "ValueError.__new__"))
    (rv_BadNumber : PySem.HandSPX.refsVE bm_BadNumber = true)
    (sa_BadNumber : PySem.W.findIn K (.ref c_BadNumber) "__setattr__" = some (some (.builtin "object.__setattr__")))
    (ex_BadNumber : PySem.W.subIn K (.ref c_BadNumber) (.type "BaseException") = some true)
    (ty_BadNumber : PySem.W.typeIn K (.ref c_BadNumber) = some (.type "type"))
    (kc_BadNumber : PySem.W.keepIn K (.ref c_BadNumber) = true)
    (in_BadNumber : PySem.W.findIn K (.ref c_BadNumber) "__init__" = some (some (.ref f_BadNumber_init)))
    (ti_BadNumber : PySem.W.typeIn K (.ref f_BadNumber_init) = some (.type "function"))
    (lf_BadNumber : K.lookup f_BadNumber_init = some ⟨oc_BadNumber, od_BadNumber, .func (PySem.W.ksFn "__init__" "BadNumber.__init__" (defArgs s_BadNumber_init) (defBody s_BadNumber_init) (defScope s_BadNumber_init) .none kV_BadNumber dc_BadNumber pm_BadNumber an_BadNumber (.ref cda_BadNumber) ct_BadNumber cc_BadNumber), osl_BadNumber⟩)
    (hc_BadNumber : PySem.W.codeIn K (.ref cda_BadNumber) "BadNumber.__init__" = true)
    (lk_BadNumber : K.lookup cda_BadNumber = some ⟨ccl_BadNumber, cdd_BadNumber, .fields cvs_BadNumber, ccs_BadNumber⟩)
    (vs_BadNumber : cvs_BadNumber[2]? = some (.str file_BadNumber tf_BadNumber))
    (fi_BadNumber : ((PP.main.file : Str) == file_BadNumber) = true)
    (lc_BadNumber : K.lookup cc_BadNumber = some ⟨cl_BadNumber, cld_BadNumber, .cell (some (.ref c_BadNumber)), csl_BadNumber⟩)
    (ms_BadNumber : PySem.W.mroIn K c_BadNumber (.ref c_BadNumber) = some true)
    (sv_BadNumber : PySem.W.subIn K (.ref c_BadNumber) (.type "ValueError") = some true)
    (sp_BadNumber : PySem.W.ks_superIn K c_BadNumber c_BadNumber "__init__" = some (some (.builtin "ValueError.__init__")))
    (no_BadNumber : PySem.W.findIn K (.ref c_BadNumber) "value" = some none)
    (ga_BadNumber : PySem.W.findIn K (.ref c_BadNumber) "__getattribute__" = some (some (.builtin "BaseException.__getattribute__")))
    (gg_BadNumber : PySem.W.findIn K (.ref c_BadNumber) "__getattr__" = some none)
    (hd_BadNumber : PySem.W.hasDictIn K c_BadNumber = true)
    (ca_BadNumber : PySem.W.findIn K (.ref c_BadNumber) "__class__" = some (some (.builtin "object.__class__")))
    (cm_BadNumber : PySem.W.mroIn K c_BadNumber (.type "object") = some true)
    (su_BadNumber_SpeedError : PySem.W.subIn K (.ref c_BadNumber) (.ref c_SpeedError) = some true)
    (ic_SpeedError : PySem.W.isClsIn K c_SpeedError = true)
    (sb_SpeedError : PySem.W.subIn K (.ref c_SpeedError) (.type "BaseException") = some true)
    (tt_SpeedError : PySem.W.typeIn K (.ref c_SpeedError) = some (.type "type"))
    (a_is_integer : PySem.W.nsIn K mainGlobals "is_integer" = some (some (.ref f_is_integer)))
    (l_is_integer : K.lookup f_is_integer = some ⟨oc_is_integer, od_is_integer, .func (PySem.W.fnOf "is_integer" "is_integer" (defArgs s_is_integer) (defBody s_is_integer) (defScope s_is_integer) .none kV_is_integer dc_is_integer pm_is_integer an_is_integer cd_is_integer ct_is_integer), osl_is_integer⟩)
    (hc_is_integer : PySem.W.codeIn K cd_is_integer "is_integer" = true)
    (k_is_integer : PySem.W.keepIn K (.ref f_is_integer) = true)
    (a_shared_divisor : PySem.W.nsIn K mainGlobals "shared_divisor" = some (some (.ref f_shared_divisor)))
    (l_shared_divisor : K.lookup f_shared_divisor = some ⟨oc_shared_divisor, od_shared_divisor, .func (PySem.W.fnOf "shared_divisor" "shared_divisor" (defArgs s_shared_divisor) (defBody s_shared_divisor) (defScope s_shared_divisor) .none kV_shared_divisor dc_shared_divisor pm_shared_divisor an_shared_divisor cd_shared_divisor ct_shared_divisor), osl_shared_divisor⟩)
    (hc_shared_divisor : PySem.W.codeIn K cd_shared_divisor "shared_divisor" = true)
    (k_shared_divisor : PySem.W.keepIn K (.ref f_shared_divisor) = true)
    (a_Number_init : PySem.W.findIn K (.ref c_Number) "__init__" = some (some (.ref f_Number_init)))
    (i_Number_init : PySem.W.isFn K (.ref f_Number_init) = true)
    (l_Number_init : K.lookup f_Number_init = some ⟨oc_Number_init, od_Number_init, .func (PySem.W.fnOf "__init__" "Number.__init__" (defArgs s_Number_init) (defBody s_Number_init) (defScope s_Number_init) (.ref T_Number_init) kV_Number_init dc_Number_init pm_Number_init an_Number_init cd_Number_init ct_Number_init), osl_Number_init⟩)
    (hc_Number_init : PySem.W.codeIn K cd_Number_init "Number.__init__" = true)
    (k_Number_init : PySem.W.keepIn K (.ref f_Number_init) = true)
    (lT_Number_init : K.lookup T_Number_init = some ⟨oT_Number_init, dT_Number_init, .seq #[.int 1 t_Number_init_0] nT_Number_init, sT_Number_init⟩)
    (at_Number_top : PySem.W.findIn K (.ref c_Number) "top" = some (some (.ref p_Number_top)))
    (gt_Number_top : PySem.W.specialIn K (.ref p_Number_top) "__get__" = some (some (.builtin "property.__get__")))
    (tk_Number_top : PySem.W.takesIn K (.ref p_Number_top) = some true)
    (rc_Number_top : PySem.W.recIn K p_Number_top "property" = some (.ref f_Number_top :: r_Number_top))
    (l_Number_top : K.lookup f_Number_top = some ⟨oc_Number_top, od_Number_top, .func (PySem.W.fnOf "top" "Number.top" (defArgs s_Number_top) (defBody s_Number_top) (defScope s_Number_top) .none kV_Number_top dc_Number_top pm_Number_top an_Number_top cd_Number_top ct_Number_top), osl_Number_top⟩)
    (hc_Number_top : PySem.W.codeIn K cd_Number_top "Number.top" = true)
    (k_Number_top : PySem.W.keepIn K (.ref f_Number_top) = true)
    (at_Number_bottom : PySem.W.findIn K (.ref c_Number) "bottom" = some (some (.ref p_Number_bottom)))
    (gt_Number_bottom : PySem.W.specialIn K (.ref p_Number_bottom) "__get__" = some (some (.builtin "property.__get__")))
    (tk_Number_bottom : PySem.W.takesIn K (.ref p_Number_bottom) = some true)
    (rc_Number_bottom : PySem.W.recIn K p_Number_bottom "property" = some (.ref f_Number_bottom :: r_Number_bottom))
    (l_Number_bottom : K.lookup f_Number_bottom = some ⟨oc_Number_bottom, od_Number_bottom, .func (PySem.W.fnOf "bottom" "Number.bottom" (defArgs s_Number_bottom) (defBody s_Number_bottom) (defScope s_Number_bottom) .none kV_Number_bottom dc_Number_bottom pm_Number_bottom an_Number_bottom cd_Number_bottom ct_Number_bottom), osl_Number_bottom⟩)
    (hc_Number_bottom : PySem.W.codeIn K cd_Number_bottom "Number.bottom" = true)
    (k_Number_bottom : PySem.W.keepIn K (.ref f_Number_bottom) = true)
    (a_law_pot : PySem.W.nsIn K mainGlobals "_law_pot" = some (some (.ref f_law_pot)))
    (l_law_pot : K.lookup f_law_pot = some ⟨oc_law_pot, od_law_pot, .func (PySem.W.fnOf "_law_pot" "_law_pot" (defArgs s_law_pot) (defBody s_law_pot) (defScope s_law_pot) .none kV_law_pot dc_law_pot pm_law_pot an_law_pot cd_law_pot ct_law_pot), osl_law_pot⟩)
    (hc_law_pot : PySem.W.codeIn K cd_law_pot "_law_pot" = true)
    (k_law_pot : PySem.W.keepIn K (.ref f_law_pot) = true)
    (a_law_take : PySem.W.nsIn K mainGlobals "_law_take" = some (some (.ref f_law_take)))
    (l_law_take : K.lookup f_law_take = some ⟨oc_law_take, od_law_take, .func (PySem.W.fnOf "_law_take" "_law_take" (defArgs s_law_take) (defBody s_law_take) (defScope s_law_take) .none kV_law_take dc_law_take pm_law_take an_law_take cd_law_take ct_law_take), osl_law_take⟩)
    (hc_law_take : PySem.W.codeIn K cd_law_take "_law_take" = true)
    (k_law_take : PySem.W.keepIn K (.ref f_law_take) = true)
    (a_law_of : PySem.W.nsIn K mainGlobals "_law_of" = some (some (.ref f_law_of)))
    (l_law_of : K.lookup f_law_of = some ⟨oc_law_of, od_law_of, .func (PySem.W.fnOf "_law_of" "_law_of" (defArgs s_law_of) (defBody s_law_of) (defScope s_law_of) .none kV_law_of dc_law_of pm_law_of an_law_of cd_law_of ct_law_of), osl_law_of⟩)
    (hc_law_of : PySem.W.codeIn K cd_law_of "_law_of" = true)
    (k_law_of : PySem.W.keepIn K (.ref f_law_of) = true)
    (a_law_least : PySem.W.nsIn K mainGlobals "_law_least" = some (some (.ref f_law_least)))
    (l_law_least : K.lookup f_law_least = some ⟨oc_law_least, od_law_least, .func (PySem.W.fnOf "_law_least" "_law_least" (defArgs s_law_least) (defBody s_law_least) (defScope s_law_least) .none kV_law_least dc_law_least pm_law_least an_law_least cd_law_least ct_law_least), osl_law_least⟩)
    (hc_law_least : PySem.W.codeIn K cd_law_least "_law_least" = true)
    (k_law_least : PySem.W.keepIn K (.ref f_law_least) = true)
    (a_law_any : PySem.W.nsIn K mainGlobals "_law_any" = some (some (.ref f_law_any)))
    (l_law_any : K.lookup f_law_any = some ⟨oc_law_any, od_law_any, .func (PySem.W.fnOf "_law_any" "_law_any" (defArgs s_law_any) (defBody s_law_any) (defScope s_law_any) .none kV_law_any dc_law_any pm_law_any an_law_any cd_law_any ct_law_any), osl_law_any⟩)
    (hc_law_any : PySem.W.codeIn K cd_law_any "_law_any" = true)
    (k_law_any : PySem.W.keepIn K (.ref f_law_any) = true)
    (a_law_is_int : PySem.W.nsIn K mainGlobals "_law_is_int" = some (some (.ref f_law_is_int)))
    (l_law_is_int : K.lookup f_law_is_int = some ⟨oc_law_is_int, od_law_is_int, .func (PySem.W.fnOf "_law_is_int" "_law_is_int" (defArgs s_law_is_int) (defBody s_law_is_int) (defScope s_law_is_int) .none kV_law_is_int dc_law_is_int pm_law_is_int an_law_is_int cd_law_is_int ct_law_is_int), osl_law_is_int⟩)
    (hc_law_is_int : PySem.W.codeIn K cd_law_is_int "_law_is_int" = true)
    (k_law_is_int : PySem.W.keepIn K (.ref f_law_is_int) = true)
    (a_law_heard : PySem.W.nsIn K mainGlobals "_law_heard" = some (some (.ref f_law_heard)))
    (l_law_heard : K.lookup f_law_heard = some ⟨oc_law_heard, od_law_heard, .func (PySem.W.fnOf "_law_heard" "_law_heard" (defArgs s_law_heard) (defBody s_law_heard) (defScope s_law_heard) .none kV_law_heard dc_law_heard pm_law_heard an_law_heard cd_law_heard ct_law_heard), osl_law_heard⟩)
    (hc_law_heard : PySem.W.codeIn K cd_law_heard "_law_heard" = true)
    (k_law_heard : PySem.W.keepIn K (.ref f_law_heard) = true)
    (a_law_is_right : PySem.W.nsIn K mainGlobals "_law_is_right" = some (some (.ref f_law_is_right)))
    (l_law_is_right : K.lookup f_law_is_right = some ⟨oc_law_is_right, od_law_is_right, .func (PySem.W.fnOf "_law_is_right" "_law_is_right" (defArgs s_law_is_right) (defBody s_law_is_right) (defScope s_law_is_right) .none kV_law_is_right dc_law_is_right pm_law_is_right an_law_is_right (.ref ca_law_is_right) ct_law_is_right), osl_law_is_right⟩)
    (hc_law_is_right : PySem.W.codeIn K (.ref ca_law_is_right) "_law_is_right" = true)
    (ch_law_is_right : PySem.W.codeHdIn K ca_law_is_right 263 = true)
    (k_law_is_right : PySem.W.keepIn K (.ref f_law_is_right) = true)
    (a_law : PySem.W.nsIn K mainGlobals "law" = some (some (.ref f_law)))
    (l_law : K.lookup f_law = some ⟨oc_law, od_law, .func (PySem.W.fnOf "law" "law" (defArgs s_law) (defBody s_law) (defScope s_law) .none kV_law dc_law pm_law an_law cd_law ct_law), osl_law⟩)
    (hc_law : PySem.W.codeIn K cd_law "law" = true)
    (k_law : PySem.W.keepIn K (.ref f_law) = true)
    (z_isinstance : PySem.W.nsIn K mainGlobals "isinstance" = some none)
    (z_int : PySem.W.nsIn K mainGlobals "int" = some none)
    (z_bool : PySem.W.nsIn K mainGlobals "bool" = some none)
    (z_abs : PySem.W.nsIn K mainGlobals "abs" = some none)
    (z_len : PySem.W.nsIn K mainGlobals "len" = some none)
    (z_max : PySem.W.nsIn K mainGlobals "max" = some none)
    (z_min : PySem.W.nsIn K mainGlobals "min" = some none)
    (z_range : PySem.W.nsIn K mainGlobals "range" = some none)
    (z_repr : PySem.W.nsIn K mainGlobals "repr" = some none)
    (z_ValueError : PySem.W.nsIn K mainGlobals "ValueError" = some none)
    (kit_BB : PySem.W.kitOne K (.ref c_BadNumber) (.ref c_BadNumber) = some true)
    (kit_BV : PySem.W.kitOne K (.ref c_BadNumber) (.type "ValueError") = some true)
    (kit_BS : PySem.W.kitOne K (.ref c_BadNumber) (.ref c_BadStretch) = some false)
    (kit_BT : PySem.W.kitOne K (.ref c_BadNumber) (.ref c_BadText) = some false)
    : ∃ A : Ad, A.f_law = f_law ∧ Txt K mg A :=
  ⟨⟨c_SpeedError, c_BadNumber, c_BadStretch, c_BadText, c_Number, f_BadNumber_init, (PySem.W.ksFn "__init__" "BadNumber.__init__" (defArgs s_BadNumber_init) (defBody s_BadNumber_init) (defScope s_BadNumber_init) .none kV_BadNumber dc_BadNumber pm_BadNumber an_BadNumber (.ref cda_BadNumber) ct_BadNumber cc_BadNumber), f_is_integer, (PySem.W.fnOf "is_integer" "is_integer" (defArgs s_is_integer) (defBody s_is_integer) (defScope s_is_integer) .none kV_is_integer dc_is_integer pm_is_integer an_is_integer cd_is_integer ct_is_integer), f_shared_divisor, (PySem.W.fnOf "shared_divisor" "shared_divisor" (defArgs s_shared_divisor) (defBody s_shared_divisor) (defScope s_shared_divisor) .none kV_shared_divisor dc_shared_divisor pm_shared_divisor an_shared_divisor cd_shared_divisor ct_shared_divisor), f_Number_init, (PySem.W.fnOf "__init__" "Number.__init__" (defArgs s_Number_init) (defBody s_Number_init) (defScope s_Number_init) (.ref T_Number_init) kV_Number_init dc_Number_init pm_Number_init an_Number_init cd_Number_init ct_Number_init), f_Number_top, (PySem.W.fnOf "top" "Number.top" (defArgs s_Number_top) (defBody s_Number_top) (defScope s_Number_top) .none kV_Number_top dc_Number_top pm_Number_top an_Number_top cd_Number_top ct_Number_top), p_Number_top, f_Number_bottom, (PySem.W.fnOf "bottom" "Number.bottom" (defArgs s_Number_bottom) (defBody s_Number_bottom) (defScope s_Number_bottom) .none kV_Number_bottom dc_Number_bottom pm_Number_bottom an_Number_bottom cd_Number_bottom ct_Number_bottom), p_Number_bottom, f_law_pot, (PySem.W.fnOf "_law_pot" "_law_pot" (defArgs s_law_pot) (defBody s_law_pot) (defScope s_law_pot) .none kV_law_pot dc_law_pot pm_law_pot an_law_pot cd_law_pot ct_law_pot), f_law_take, (PySem.W.fnOf "_law_take" "_law_take" (defArgs s_law_take) (defBody s_law_take) (defScope s_law_take) .none kV_law_take dc_law_take pm_law_take an_law_take cd_law_take ct_law_take), f_law_of, (PySem.W.fnOf "_law_of" "_law_of" (defArgs s_law_of) (defBody s_law_of) (defScope s_law_of) .none kV_law_of dc_law_of pm_law_of an_law_of cd_law_of ct_law_of), f_law_least, (PySem.W.fnOf "_law_least" "_law_least" (defArgs s_law_least) (defBody s_law_least) (defScope s_law_least) .none kV_law_least dc_law_least pm_law_least an_law_least cd_law_least ct_law_least), f_law_any, (PySem.W.fnOf "_law_any" "_law_any" (defArgs s_law_any) (defBody s_law_any) (defScope s_law_any) .none kV_law_any dc_law_any pm_law_any an_law_any cd_law_any ct_law_any), f_law_is_int, (PySem.W.fnOf "_law_is_int" "_law_is_int" (defArgs s_law_is_int) (defBody s_law_is_int) (defScope s_law_is_int) .none kV_law_is_int dc_law_is_int pm_law_is_int an_law_is_int cd_law_is_int ct_law_is_int), f_law_heard, (PySem.W.fnOf "_law_heard" "_law_heard" (defArgs s_law_heard) (defBody s_law_heard) (defScope s_law_heard) .none kV_law_heard dc_law_heard pm_law_heard an_law_heard cd_law_heard ct_law_heard), f_law_is_right, (PySem.W.fnOf "_law_is_right" "_law_is_right" (defArgs s_law_is_right) (defBody s_law_is_right) (defScope s_law_is_right) .none kV_law_is_right dc_law_is_right pm_law_is_right an_law_is_right (.ref ca_law_is_right) ct_law_is_right), f_law, (PySem.W.fnOf "law" "law" (defArgs s_law) (defBody s_law) (defScope s_law) .none kV_law dc_law pm_law an_law cd_law ct_law)⟩, rfl, {
    g_SpeedError := PySem.W.mg_of X G a_SpeedError,
    g_BadNumber := PySem.W.mg_of X G a_BadNumber,
    g_BadStretch := PySem.W.mg_of X G a_BadStretch,
    g_BadText := PySem.W.mg_of X G a_BadText,
    g_Number := PySem.W.mg_of X G a_Number,
    cl_Number := ⟨pg_Number, hd_Number, po_Number, sa_Number⟩,
    M_Number := ⟨mk_Number, a_Number_init, i_Number_init, kc_Number⟩,
    sf_Number := sf_Number,
    ca_Number := ca_Number,
    cm_Number := cm_Number,
    n_Number_own_top := n_Number_own_top,
    n_Number_own_bottom := n_Number_own_bottom,
    cn := cn,
    ct := ct,
    X_BadNumber := ⟨⟨_, _, _, _, _, _, _, _, _, _, _, _, _, _, _, lC_BadNumber, rv_BadNumber⟩, sa_BadNumber, ex_BadNumber, ty_BadNumber, kc_BadNumber⟩,
    C_BadNumber := ⟨⟨ga_BadNumber, gg_BadNumber, ex_BadNumber, hd_BadNumber⟩, by unfold PySem.W.clsIn; rw [lC_BadNumber] <;> rfl, ca_BadNumber, cn, ct, cm_BadNumber⟩,
    no_BadNumber := no_BadNumber,
    in_BadNumber := in_BadNumber,
    ti_BadNumber := ti_BadNumber,
    b_BadNumber_init := Binds.all fun us hl => match us, hl with | [_, _], _ => rfl,
    I_BadNumber := fun w base => ok_superInit lf_BadNumber hc_BadNumber lk_BadNumber vs_BadNumber fi_BadNumber lc_BadNumber ⟨⟨_, _, _, _, _, _, _, _, _, _, _, _, _, _, _, lC_BadNumber, rv_BadNumber⟩, sa_BadNumber, ex_BadNumber, ty_BadNumber, kc_BadNumber⟩ ms_BadNumber sv_BadNumber sp_BadNumber tp_any no_BadNumber (PySem.W.mg_none_of X G z_super) (by decide +kernel) (by decide +kernel) rfl rfl rfl rfl rfl rfl (by decide +kernel) rfl rfl rfl (by decide +kernel) (fun _ => rfl) (fun _ => rfl) (fun _ => rfl) (fun _ => rfl),
    em_BadNumber_SpeedError := exm_mk sb_SpeedError ic_SpeedError tt_SpeedError su_BadNumber_SpeedError,
    g_is_integer := PySem.W.mg_of X G a_is_integer,
    F_is_integer := fun_mk (st := s_is_integer) l_is_integer hc_is_integer k_is_integer,
    b_is_integer := (fun_mk (st := s_is_integer) l_is_integer hc_is_integer k_is_integer).binds (ps := ["value"]) fun _ _ _ _ _ _ us hl => match us, hl with | [_], _ => rfl,
    g_shared_divisor := PySem.W.mg_of X G a_shared_divisor,
    F_shared_divisor := fun_mk (st := s_shared_divisor) l_shared_divisor hc_shared_divisor k_shared_divisor,
    b_shared_divisor := (fun_mk (st := s_shared_divisor) l_shared_divisor hc_shared_divisor k_shared_divisor).binds (ps := ["one", "other"]) fun _ _ _ _ _ _ us hl => match us, hl with | [_, _], _ => rfl,
    m_Number_init := ⟨a_Number_init, i_Number_init, k_Number_init⟩,
    F_Number_init := ⟨⟨_, _, _, _, _, _, _, _, _, _, rfl, l_Number_init, hc_Number_init, Or.inr ⟨by simp, _, _, [.int 1 t_Number_init_0], _, rfl, lT_Number_init, rfl, .cons ⟨_, rfl⟩ (.nil)⟩, Or.inl rfl⟩, k_Number_init⟩,
    P_Number_top := ⟨at_Number_top, gt_Number_top, tk_Number_top, ⟨_, rc_Number_top⟩⟩,
    F_Number_top := fun_mk (st := s_Number_top) l_Number_top hc_Number_top k_Number_top,
    b_Number_top := (fun_mk (st := s_Number_top) l_Number_top hc_Number_top k_Number_top).binds (ps := ["self"]) fun _ _ _ _ _ _ us hl => match us, hl with | [_], _ => rfl,
    P_Number_bottom := ⟨at_Number_bottom, gt_Number_bottom, tk_Number_bottom, ⟨_, rc_Number_bottom⟩⟩,
    F_Number_bottom := fun_mk (st := s_Number_bottom) l_Number_bottom hc_Number_bottom k_Number_bottom,
    b_Number_bottom := (fun_mk (st := s_Number_bottom) l_Number_bottom hc_Number_bottom k_Number_bottom).binds (ps := ["self"]) fun _ _ _ _ _ _ us hl => match us, hl with | [_], _ => rfl,
    g_law_pot := PySem.W.mg_of X G a_law_pot,
    F_law_pot := fun_mk (st := s_law_pot) l_law_pot hc_law_pot k_law_pot,
    b_law_pot := (fun_mk (st := s_law_pot) l_law_pot hc_law_pot k_law_pot).binds (ps := ["script", "k"]) fun _ _ _ _ _ _ us hl => match us, hl with | [_, _], _ => rfl,
    g_law_take := PySem.W.mg_of X G a_law_take,
    F_law_take := fun_mk (st := s_law_take) l_law_take hc_law_take k_law_take,
    b_law_take := (fun_mk (st := s_law_take) l_law_take hc_law_take k_law_take).binds (ps := ["pot", "upto"]) fun _ _ _ _ _ _ us hl => match us, hl with | [_, _], _ => rfl,
    g_law_of := PySem.W.mg_of X G a_law_of,
    F_law_of := fun_mk (st := s_law_of) l_law_of hc_law_of k_law_of,
    b_law_of := (fun_mk (st := s_law_of) l_law_of hc_law_of k_law_of).binds (ps := ["pot", "some"]) fun _ _ _ _ _ _ us hl => match us, hl with | [_, _], _ => rfl,
    g_law_least := PySem.W.mg_of X G a_law_least,
    F_law_least := fun_mk (st := s_law_least) l_law_least hc_law_least k_law_least,
    b_law_least := (fun_mk (st := s_law_least) l_law_least hc_law_least k_law_least).binds (ps := ["above", "below"]) fun _ _ _ _ _ _ us hl => match us, hl with | [_, _], _ => rfl,
    g_law_any := PySem.W.mg_of X G a_law_any,
    F_law_any := fun_mk (st := s_law_any) l_law_any hc_law_any k_law_any,
    b_law_any := (fun_mk (st := s_law_any) l_law_any hc_law_any k_law_any).binds (ps := ["pot"]) fun _ _ _ _ _ _ us hl => match us, hl with | [_], _ => rfl,
    g_law_is_int := PySem.W.mg_of X G a_law_is_int,
    F_law_is_int := fun_mk (st := s_law_is_int) l_law_is_int hc_law_is_int k_law_is_int,
    b_law_is_int := (fun_mk (st := s_law_is_int) l_law_is_int hc_law_is_int k_law_is_int).binds (ps := ["value"]) fun _ _ _ _ _ _ us hl => match us, hl with | [_], _ => rfl,
    g_law_heard := PySem.W.mg_of X G a_law_heard,
    F_law_heard := fun_mk (st := s_law_heard) l_law_heard hc_law_heard k_law_heard,
    b_law_heard := (fun_mk (st := s_law_heard) l_law_heard hc_law_heard k_law_heard).binds (ps := ["ask"]) fun _ _ _ _ _ _ us hl => match us, hl with | [_], _ => rfl,
    g_law_is_right := PySem.W.mg_of X G a_law_is_right,
    lam_law_is_right := ⟨_, _, _, _, _, _, _, _, _, rfl, l_law_is_right, hc_law_is_right, ch_law_is_right⟩,
    F_law_is_right := fun_mk (st := s_law_is_right) l_law_is_right hc_law_is_right k_law_is_right,
    b_law_is_right := (fun_mk (st := s_law_is_right) l_law_is_right hc_law_is_right k_law_is_right).binds (ps := ["above", "below"]) fun _ _ _ _ _ _ us hl => match us, hl with | [_, _], _ => rfl,
    F_law := fun_mk (st := s_law) l_law hc_law k_law,
    b_law := (fun_mk (st := s_law) l_law hc_law k_law).binds (ps := ["script"]) fun _ _ _ _ _ _ us hl => match us, hl with | [_], _ => rfl,
    z_isinstance := PySem.W.mg_none_of X G z_isinstance,
    z_int := PySem.W.mg_none_of X G z_int,
    z_bool := PySem.W.mg_none_of X G z_bool,
    z_abs := PySem.W.mg_none_of X G z_abs,
    z_len := PySem.W.mg_none_of X G z_len,
    z_max := PySem.W.mg_none_of X G z_max,
    z_min := PySem.W.mg_none_of X G z_min,
    z_range := PySem.W.mg_none_of X G z_range,
    z_repr := PySem.W.mg_none_of X G z_repr,
    z_ValueError := PySem.W.mg_none_of X G z_ValueError,
    kit_BB := kit_BB,
    kit_BV := kit_BV,
    kit_BS := kit_BS,
    kit_BT := kit_BT
  }⟩

abbrev LV : Nat := 12
theorem walk {l : PySem.W.OpenLaw} {q : Program} {loose : List Str} {XP : (Str → Option Value) → Heap → Prop} {YP : World → Heap → Prop} {d : DefRec} {K : Params → PySem.W.Frag} (hn : l.most = some 63) (hdf : d.params.defaults = [])
    (hY : ∀ (w : World) (h : Heap), YP w h → (K w.params).In h) (hT : ∀ (w : World) (h : Heap), YP w h → h.get? 263 = some (PySem.W.tabObj #[])) (nT : ∀ w : World, (K w.params).lookup 263 = none)
    (F : ∀ (w : World) (mg : Str → Option Value) (fa : Addr) (h : Heap), (K w.params).In h → h.Ns mainGlobals mg → mg d.name = some (.ref fa) →
      (∃ c, PySem.W.codeHdIn (K w.params) c 263 = true) ∧ ∃ fd : FuncData, (∀ (s : Shared) (u : Value), BindsTo s fd ⟨[u], []⟩ [("script", u)]) ∧ ∀ base : Heap, (K w.params).In base → base.Ns mainGlobals mg → (∀ c, PySem.W.codeHdIn (K w.params) c 263 = true → LamX.TabB base mg c 263) → FnG l.prog w (K w.params) mg base CX0 LV fa fd ["script"] (spLaw (K w.params))) :
    PySem.W.WalkO q loose XP YP l.row.toRowW d [] (fun f vs => PySem.call f vs) :=
  WK.walk_TG (n := 63) (k := LV) (x := "script") (T := 263) (sp := fun w => spLaw (K w.params)) hn (by decide) hdf ⟨rfl, by decide, by decide⟩ hY hT nT F (fun _ _ a ns hl hH hS => ⟨a, ns, rfl, hS, hl, hH, fun _ => rfl⟩)
theorem law_mk {w : World} {K : PySem.W.Frag} {h : Heap} {mg : Str → Option Value} {fa : Addr} (X : K.In h) (G : h.Ns mainGlobals mg) (hfa : mg "law" = some (.ref fa))
    {c_SpeedError : Addr}
    {c_BadNumber : Addr}
    {c_BadStretch : Addr}
    {c_BadText : Addr}
    {c_Number : Addr}
    {f_BadNumber_init : Addr}
    {nm_BadNumber : Str}
    {qn_BadNumber : Str}
    {Ns_BadNumber : Addr}
    {bs_BadNumber : List Value}
    {bm_BadNumber : List Value}
    {sn_BadNumber : List Str}
    {sub_BadNumber : List Value}
    {ab_BadNumber : Bool}
    {col_BadNumber : Option Bool}
    {dd_BadNumber : Option Addr}
    {k0_BadNumber : Option Value}
    {k1_BadNumber : Option Value}
    {k2_BadNumber : Option Value}
    {k3_BadNumber : Option Value}
    {k5_BadNumber : Option Value}
    {oc_BadNumber : Value}
    {od_BadNumber : Option Addr}
    {an_BadNumber : Option Addr}
    {osl_BadNumber : Array (Option Value)}
    {kV_BadNumber : Value}
    {dc_BadNumber : Value}
    {pm_BadNumber : Value}
    {ct_BadNumber : Value}
    {cda_BadNumber : Addr}
    {cc_BadNumber : Addr}
    {ccl_BadNumber : Value}
    {cdd_BadNumber : Option Addr}
    {cvs_BadNumber : Array Value}
    {ccs_BadNumber : Array (Option Value)}
    {file_BadNumber : Str}
    {tf_BadNumber : Tok}
    {cl_BadNumber : Value}
    {cld_BadNumber : Option Addr}
    {csl_BadNumber : Array (Option Value)}
    {f_is_integer : Addr}
    {oc_is_integer : Value}
    {kV_is_integer : Value}
    {dc_is_integer : Value}
    {pm_is_integer : Value}
    {cd_is_integer : Value}
    {ct_is_integer : Value}
    {od_is_integer : Option Addr}
    {an_is_integer : Option Addr}
    {osl_is_integer : Array (Option Value)}
    {f_shared_divisor : Addr}
    {oc_shared_divisor : Value}
    {kV_shared_divisor : Value}
    {dc_shared_divisor : Value}
    {pm_shared_divisor : Value}
    {cd_shared_divisor : Value}
    {ct_shared_divisor : Value}
    {od_shared_divisor : Option Addr}
    {an_shared_divisor : Option Addr}
    {osl_shared_divisor : Array (Option Value)}
    {f_Number_init : Addr}
    {oc_Number_init : Value}
    {kV_Number_init : Value}
    {dc_Number_init : Value}
    {pm_Number_init : Value}
    {cd_Number_init : Value}
    {ct_Number_init : Value}
    {od_Number_init : Option Addr}
    {an_Number_init : Option Addr}
    {osl_Number_init : Array (Option Value)}
    {T_Number_init : Addr}
    {t_Number_init_0 : Tok}
    {oT_Number_init : Value}
    {dT_Number_init : Option Addr}
    {nT_Number_init : Nat}
    {sT_Number_init : Array (Option Value)}
    {f_Number_top : Addr}
    {p_Number_top : Addr}
    {r_Number_top : List Value}
    {oc_Number_top : Value}
    {kV_Number_top : Value}
    {dc_Number_top : Value}
    {pm_Number_top : Value}
    {cd_Number_top : Value}
    {ct_Number_top : Value}
    {od_Number_top : Option Addr}
    {an_Number_top : Option Addr}
    {osl_Number_top : Array (Option Value)}
    {f_Number_bottom : Addr}
    {p_Number_bottom : Addr}
    {r_Number_bottom : List Value}
    {oc_Number_bottom : Value}
    {kV_Number_bottom : Value}
    {dc_Number_bottom : Value}
    {pm_Number_bottom : Value}
    {cd_Number_bottom : Value}
    {ct_Number_bottom : Value}
    {od_Number_bottom : Option Addr}
    {an_Number_bottom : Option Addr}
    {osl_Number_bottom : Array (Option Value)}
    {f_law_pot : Addr}
    {oc_law_pot : Value}
    {kV_law_pot : Value}
    {dc_law_pot : Value}
    {pm_law_pot : Value}
    {cd_law_pot : Value}
    {ct_law_pot : Value}
    {od_law_pot : Option Addr}
    {an_law_pot : Option Addr}
    {osl_law_pot : Array (Option Value)}
    {f_law_take : Addr}
    {oc_law_take : Value}
    {kV_law_take : Value}
    {dc_law_take : Value}
    {pm_law_take : Value}
    {cd_law_take : Value}
    {ct_law_take : Value}
    {od_law_take : Option Addr}
    {an_law_take : Option Addr}
    {osl_law_take : Array (Option Value)}
    {f_law_of : Addr}
    {oc_law_of : Value}
    {kV_law_of : Value}
    {dc_law_of : Value}
    {pm_law_of : Value}
    {cd_law_of : Value}
    {ct_law_of : Value}
    {od_law_of : Option Addr}
    {an_law_of : Option Addr}
    {osl_law_of : Array (Option Value)}
    {f_law_least : Addr}
    {oc_law_least : Value}
    {kV_law_least : Value}
    {dc_law_least : Value}
    {pm_law_least : Value}
    {cd_law_least : Value}
    {ct_law_least : Value}
    {od_law_least : Option Addr}
    {an_law_least : Option Addr}
    {osl_law_least : Array (Option Value)}
    {f_law_any : Addr}
    {oc_law_any : Value}
    {kV_law_any : Value}
    {dc_law_any : Value}
    {pm_law_any : Value}
    {cd_law_any : Value}
    {ct_law_any : Value}
    {od_law_any : Option Addr}
    {an_law_any : Option Addr}
    {osl_law_any : Array (Option Value)}
    {f_law_is_int : Addr}
    {oc_law_is_int : Value}
    {kV_law_is_int : Value}
    {dc_law_is_int : Value}
    {pm_law_is_int : Value}
    {cd_law_is_int : Value}
    {ct_law_is_int : Value}
    {od_law_is_int : Option Addr}
    {an_law_is_int : Option Addr}
    {osl_law_is_int : Array (Option Value)}
    {f_law_heard : Addr}
    {oc_law_heard : Value}
    {kV_law_heard : Value}
    {dc_law_heard : Value}
    {pm_law_heard : Value}
    {cd_law_heard : Value}
    {ct_law_heard : Value}
    {od_law_heard : Option Addr}
    {an_law_heard : Option Addr}
    {osl_law_heard : Array (Option Value)}
    {f_law_is_right : Addr}
    {oc_law_is_right : Value}
    {kV_law_is_right : Value}
    {dc_law_is_right : Value}
    {pm_law_is_right : Value}
    {ct_law_is_right : Value}
    {od_law_is_right : Option Addr}
    {an_law_is_right : Option Addr}
    {osl_law_is_right : Array (Option Value)}
    {ca_law_is_right : Addr}
    {f_law : Addr}
    {oc_law : Value}
    {kV_law : Value}
    {dc_law : Value}
    {pm_law : Value}
    {cd_law : Value}
    {ct_law : Value}
    {od_law : Option Addr}
    {an_law : Option Addr}
    {osl_law : Array (Option Value)}
    (a_SpeedError : PySem.W.nsIn K mainGlobals "SpeedError" = some (some (.ref c_SpeedError)))
    (a_BadNumber : PySem.W.nsIn K mainGlobals "BadNumber" = some (some (.ref c_BadNumber)))
    (a_BadStretch : PySem.W.nsIn K mainGlobals "BadStretch" = some (some (.ref c_BadStretch)))
    (a_BadText : PySem.W.nsIn K mainGlobals "BadText" = some (some (.ref c_BadText)))
    (a_Number : PySem.W.nsIn K mainGlobals "Number" = some (some (.ref c_Number)))
    (pg_Number : PySem.W.plainGet K c_Number Str.empty = true)
    (hd_Number : PySem.W.hasDictIn K c_Number = true)
    (po_Number : PySem.W.plainOver K c_Number = true)
    (sa_Number : PySem.W.findIn K (.ref c_Number) "__setattr__" = some (some (.builtin "object.__setattr__")))
    (mk_Number : PySem.W.makesIn K c_Number = true)
    (kc_Number : PySem.W.keepIn K (.ref c_Number) = true)
    (sf_Number : PySem.W.selfFirst K c_Number = true)
    (ca_Number : PySem.W.findIn K (.ref c_Number) "__class__" = some (some (.builtin "object.__class__")))
    (cm_Number : PySem.W.mroIn K c_Number (.type "object") = some true)
    (n_Number_own_top : PySem.W.findIn K (.ref c_Number) "own_top" = some none)
    (n_Number_own_bottom : PySem.W.findIn K (.ref c_Number) "own_bottom" = some none)
    (cn : PySem.W.specialIn K (.builtin "object.__class__") "__get__" = some (some (.builtin "getset_descriptor.__get__")))
    (ct : PySem.W.takesIn K (.builtin "object.__class__") = some true)
    (z_super : PySem.W.nsIn K mainGlobals "super" = some none)
    (tp_any : PySem.W.nsIn K PySem.cStatics "thirdparty.any" = some none)
    (lC_BadNumber : K.lookup c_BadNumber = some (excClassObj nm_BadNumber qn_BadNumber c_BadNumber Ns_BadNumber bs_BadNumber bm_BadNumber true sn_BadNumber sub_BadNumber ab_BadNumber col_BadNumber dd_BadNumber k0_BadNumber k1_BadNumber k2_BadNumber k3_BadNumber k5_BadNumber "ValueError.__new__"))
    (rv_BadNumber : PySem.HandSPX.refsVE bm_BadNumber = true)
    (sa_BadNumber : PySem.W.findIn K (.ref c_BadNumber) "__setattr__" = some (some (.builtin "object.__setattr__")))
    (ex_BadNumber : PySem.W.subIn K (.ref c_BadNumber) (.type "BaseException") = some true)
    (ty_BadNumber : PySem.W.typeIn K (.ref c_BadNumber) = some (.type "type"))
    (kc_BadNumber : PySem.W.keepIn K (.ref c_BadNumber) = true)
    (in_BadNumber : PySem.W.findIn K (.ref c_BadNumber) "__init__" = some (some (.ref f_BadNumber_init)))
    (ti_BadNumber : PySem.W.typeIn K (.ref f_BadNumber_init) = some (.type "function"))
    (lf_BadNumber : K.lookup f_BadNumber_init = some ⟨oc_BadNumber, od_BadNumber, .func (PySem.W.ksFn "__init__" "BadNumber.__init__" (defArgs s_BadNumber_init) (defBody s_BadNumber_init) (defScope s_BadNumber_init) .none kV_BadNumber dc_BadNumber pm_BadNumber an_BadNumber (.ref cda_BadNumber) ct_BadNumber cc_BadNumber), osl_BadNumber⟩)
    (hc_BadNumber : PySem.W.codeIn K (.ref cda_BadNumber) "BadNumber.__init__" = true)
    (lk_BadNumber : K.lookup cda_BadNumber = some ⟨ccl_BadNumber, cdd_BadNumber, .fields cvs_BadNumber, ccs_BadNumber⟩)
    (vs_BadNumber : cvs_BadNumber[2]? = some (.str file_BadNumber tf_BadNumber))
    (fi_BadNumber : ((PP.main.file : Str) == file_BadNumber) = true)
    (lc_BadNumber : K.lookup cc_BadNumber = some ⟨cl_BadNumber, cld_BadNumber, .cell (some (.ref c_BadNumber)), csl_BadNumber⟩)
    (ms_BadNumber : PySem.W.mroIn K c_BadNumber (.ref c_BadNumber) = some true)
    (sv_BadNumber : PySem.W.subIn K (.ref c_BadNumber) (.type "ValueError") = some true)
    (sp_BadNumber : PySem.W.ks_superIn K c_BadNumber c_BadNumber "__init__" = some (some (.builtin "ValueError.__init__")))
    (no_BadNumber : PySem.W.findIn K (.ref c_BadNumber) "value" = some none)
    (ga_BadNumber : PySem.W.findIn K (.ref c_BadNumber) "__getattribute__" = some (some (.builtin "BaseException.__getattribute__")))
    (gg_BadNumber : PySem.W.findIn K (.ref c_BadNumber) "__getattr__" = some none)
    (hd_BadNumber : PySem.W.hasDictIn K c_BadNumber = true)
    (ca_BadNumber : PySem.W.findIn K (.ref c_BadNumber) "__class__" = some (some (.builtin "object.__class__")))
    (cm_BadNumber : PySem.W.mroIn K c_BadNumber (.type "object") = some true)
    (su_BadNumber_SpeedError : PySem.W.subIn K (.ref c_BadNumber) (.ref c_SpeedError) = some true)
    (ic_SpeedError : PySem.W.isClsIn K c_SpeedError = true)
    (sb_SpeedError : PySem.W.subIn K (.ref c_SpeedError) (.type "BaseException") = some true)
    (tt_SpeedError : PySem.W.typeIn K (.ref c_SpeedError) = some (.type "type"))
    (a_is_integer : PySem.W.nsIn K mainGlobals "is_integer" = some (some (.ref f_is_integer)))
    (l_is_integer : K.lookup f_is_integer = some ⟨oc_is_integer, od_is_integer, .func (PySem.W.fnOf "is_integer" "is_integer" (defArgs s_is_integer) (defBody s_is_integer) (defScope s_is_integer) .none kV_is_integer dc_is_integer pm_is_integer an_is_integer cd_is_integer ct_is_integer), osl_is_integer⟩)
    (hc_is_integer : PySem.W.codeIn K cd_is_integer "is_integer" = true)
    (k_is_integer : PySem.W.keepIn K (.ref f_is_integer) = true)
    (a_shared_divisor : PySem.W.nsIn K mainGlobals "shared_divisor" = some (some (.ref f_shared_divisor)))
    (l_shared_divisor : K.lookup f_shared_divisor = some ⟨oc_shared_divisor, od_shared_divisor, .func (PySem.W.fnOf "shared_divisor" "shared_divisor" (defArgs s_shared_divisor) (defBody s_shared_divisor) (defScope s_shared_divisor) .none kV_shared_divisor dc_shared_divisor pm_shared_divisor an_shared_divisor cd_shared_divisor ct_shared_divisor), osl_shared_divisor⟩)
    (hc_shared_divisor : PySem.W.codeIn K cd_shared_divisor "shared_divisor" = true)
    (k_shared_divisor : PySem.W.keepIn K (.ref f_shared_divisor) = true)
    (a_Number_init : PySem.W.findIn K (.ref c_Number) "__init__" = some (some (.ref f_Number_init)))
    (i_Number_init : PySem.W.isFn K (.ref f_Number_init) = true)
    (l_Number_init : K.lookup f_Number_init = some ⟨oc_Number_init, od_Number_init, .func (PySem.W.fnOf "__init__" "Number.__init__" (defArgs s_Number_init) (defBody s_Number_init) (defScope s_Number_init) (.ref T_Number_init) kV_Number_init dc_Number_init pm_Number_init an_Number_init cd_Number_init ct_Number_init), osl_Number_init⟩)
    (hc_Number_init : PySem.W.codeIn K cd_Number_init "Number.__init__" = true)
    (k_Number_init : PySem.W.keepIn K (.ref f_Number_init) = true)
    (lT_Number_init : K.lookup T_Number_init = some ⟨oT_Number_init, dT_Number_init, .seq #[.int 1 t_Number_init_0] nT_Number_init, sT_Number_init⟩)
    (at_Number_top : PySem.W.findIn K (.ref c_Number) "top" = some (some (.ref p_Number_top)))
    (gt_Number_top : PySem.W.specialIn K (.ref p_Number_top) "__get__" = some (some (.builtin "property.__get__")))
    (tk_Number_top : PySem.W.takesIn K (.ref p_Number_top) = some true)
    (rc_Number_top : PySem.W.recIn K p_Number_top "property" = some (.ref f_Number_top :: r_Number_top))
    (l_Number_top : K.lookup f_Number_top = some ⟨oc_Number_top, od_Number_top, .func (PySem.W.fnOf "top" "Number.top" (defArgs s_Number_top) (defBody s_Number_top) (defScope s_Number_top) .none kV_Number_top dc_Number_top pm_Number_top an_Number_top cd_Number_top ct_Number_top), osl_Number_top⟩)
    (hc_Number_top : PySem.W.codeIn K cd_Number_top "Number.top" = true)
    (k_Number_top : PySem.W.keepIn K (.ref f_Number_top) = true)
    (at_Number_bottom : PySem.W.findIn K (.ref c_Number) "bottom" = some (some (.ref p_Number_bottom)))
    (gt_Number_bottom : PySem.W.specialIn K (.ref p_Number_bottom) "__get__" = some (some (.builtin "property.__get__")))
    (tk_Number_bottom : PySem.W.takesIn K (.ref p_Number_bottom) = some true)
    (rc_Number_bottom : PySem.W.recIn K p_Number_bottom "property" = some (.ref f_Number_bottom :: r_Number_bottom))
    (l_Number_bottom : K.lookup f_Number_bottom = some ⟨oc_Number_bottom, od_Number_bottom, .func (PySem.W.fnOf "bottom" "Number.bottom" (defArgs s_Number_bottom) (defBody s_Number_bottom) (defScope s_Number_bottom) .none kV_Number_bottom dc_Number_bottom pm_Number_bottom an_Number_bottom cd_Number_bottom ct_Number_bottom), osl_Number_bottom⟩)
    (hc_Number_bottom : PySem.W.codeIn K cd_Number_bottom "Number.bottom" = true)
    (k_Number_bottom : PySem.W.keepIn K (.ref f_Number_bottom) = true)
    (a_law_pot : PySem.W.nsIn K mainGlobals "_law_pot" = some (some (.ref f_law_pot)))
    (l_law_pot : K.lookup f_law_pot = some ⟨oc_law_pot, od_law_pot, .func (PySem.W.fnOf "_law_pot" "_law_pot" (defArgs s_law_pot) (defBody s_law_pot) (defScope s_law_pot) .none kV_law_pot dc_law_pot pm_law_pot an_law_pot cd_law_pot ct_law_pot), osl_law_pot⟩)
    (hc_law_pot : PySem.W.codeIn K cd_law_pot "_law_pot" = true)
    (k_law_pot : PySem.W.keepIn K (.ref f_law_pot) = true)
    (a_law_take : PySem.W.nsIn K mainGlobals "_law_take" = some (some (.ref f_law_take)))
    (l_law_take : K.lookup f_law_take = some ⟨oc_law_take, od_law_take, .func (PySem.W.fnOf "_law_take" "_law_take" (defArgs s_law_take) (defBody s_law_take) (defScope s_law_take) .none kV_law_take dc_law_take pm_law_take an_law_take cd_law_take ct_law_take), osl_law_take⟩)
    (hc_law_take : PySem.W.codeIn K cd_law_take "_law_take" = true)
    (k_law_take : PySem.W.keepIn K (.ref f_law_take) = true)
    (a_law_of : PySem.W.nsIn K mainGlobals "_law_of" = some (some (.ref f_law_of)))
    (l_law_of : K.lookup f_law_of = some ⟨oc_law_of, od_law_of, .func (PySem.W.fnOf "_law_of" "_law_of" (defArgs s_law_of) (defBody s_law_of) (defScope s_law_of) .none kV_law_of dc_law_of pm_law_of an_law_of cd_law_of ct_law_of), osl_law_of⟩)
    (hc_law_of : PySem.W.codeIn K cd_law_of "_law_of" = true)
    (k_law_of : PySem.W.keepIn K (.ref f_law_of) = true)
    (a_law_least : PySem.W.nsIn K mainGlobals "_law_least" = some (some (.ref f_law_least)))
    (l_law_least : K.lookup f_law_least = some ⟨oc_law_least, od_law_least, .func (PySem.W.fnOf "_law_least" "_law_least" (defArgs s_law_least) (defBody s_law_least) (defScope s_law_least) .none kV_law_least dc_law_least pm_law_least an_law_least cd_law_least ct_law_least), osl_law_least⟩)
    (hc_law_least : PySem.W.codeIn K cd_law_least "_law_least" = true)
    (k_law_least : PySem.W.keepIn K (.ref f_law_least) = true)
    (a_law_any : PySem.W.nsIn K mainGlobals "_law_any" = some (some (.ref f_law_any)))
    (l_law_any : K.lookup f_law_any = some ⟨oc_law_any, od_law_any, .func (PySem.W.fnOf "_law_any" "_law_any" (defArgs s_law_any) (defBody s_law_any) (defScope s_law_any) .none kV_law_any dc_law_any pm_law_any an_law_any cd_law_any ct_law_any), osl_law_any⟩)
    (hc_law_any : PySem.W.codeIn K cd_law_any "_law_any" = true)
    (k_law_any : PySem.W.keepIn K (.ref f_law_any) = true)
    (a_law_is_int : PySem.W.nsIn K mainGlobals "_law_is_int" = some (some (.ref f_law_is_int)))
    (l_law_is_int : K.lookup f_law_is_int = some ⟨oc_law_is_int, od_law_is_int, .func (PySem.W.fnOf "_law_is_int" "_law_is_int" (defArgs s_law_is_int) (defBody s_law_is_int) (defScope s_law_is_int) .none kV_law_is_int dc_law_is_int pm_law_is_int an_law_is_int cd_law_is_int ct_law_is_int), osl_law_is_int⟩)
    (hc_law_is_int : PySem.W.codeIn K cd_law_is_int "_law_is_int" = true)
    (k_law_is_int : PySem.W.keepIn K (.ref f_law_is_int) = true)
    (a_law_heard : PySem.W.nsIn K mainGlobals "_law_heard" = some (some (.ref f_law_heard)))
    (l_law_heard : K.lookup f_law_heard = some ⟨oc_law_heard, od_law_heard, .func (PySem.W.fnOf "_law_heard" "_law_heard" (defArgs s_law_heard) (defBody s_law_heard) (defScope s_law_heard) .none kV_law_heard dc_law_heard pm_law_heard an_law_heard cd_law_heard ct_law_heard), osl_law_heard⟩)
    (hc_law_heard : PySem.W.codeIn K cd_law_heard "_law_heard" = true)
    (k_law_heard : PySem.W.keepIn K (.ref f_law_heard) = true)
    (a_law_is_right : PySem.W.nsIn K mainGlobals "_law_is_right" = some (some (.ref f_law_is_right)))
    (l_law_is_right : K.lookup f_law_is_right = some ⟨oc_law_is_right, od_law_is_right, .func (PySem.W.fnOf "_law_is_right" "_law_is_right" (defArgs s_law_is_right) (defBody s_law_is_right) (defScope s_law_is_right) .none kV_law_is_right dc_law_is_right pm_law_is_right an_law_is_right (.ref ca_law_is_right) ct_law_is_right), osl_law_is_right⟩)
    (hc_law_is_right : PySem.W.codeIn K (.ref ca_law_is_right) "_law_is_right" = true)
    (ch_law_is_right : PySem.W.codeHdIn K ca_law_is_right 263 = true)
    (k_law_is_right : PySem.W.keepIn K (.ref f_law_is_right) = true)
    (a_law : PySem.W.nsIn K mainGlobals "law" = some (some (.ref f_law)))
    (l_law : K.lookup f_law = some ⟨oc_law, od_law, .func (PySem.W.fnOf "law" "law" (defArgs s_law) (defBody s_law) (defScope s_law) .none kV_law dc_law pm_law an_law cd_law ct_law), osl_law⟩)
    (hc_law : PySem.W.codeIn K cd_law "law" = true)
    (k_law : PySem.W.keepIn K (.ref f_law) = true)
    (z_isinstance : PySem.W.nsIn K mainGlobals "isinstance" = some none)
    (z_int : PySem.W.nsIn K mainGlobals "int" = some none)
    (z_bool : PySem.W.nsIn K mainGlobals "bool" = some none)
    (z_abs : PySem.W.nsIn K mainGlobals "abs" = some none)
    (z_len : PySem.W.nsIn K mainGlobals "len" = some none)
    (z_max : PySem.W.nsIn K mainGlobals "max" = some none)
    (z_min : PySem.W.nsIn K mainGlobals "min" = some none)
    (z_range : PySem.W.nsIn K mainGlobals "range" = some none)
    (z_repr : PySem.W.nsIn K mainGlobals "repr" = some none)
    (z_ValueError : PySem.W.nsIn K mainGlobals "ValueError" = some none)
    (kit_BB : PySem.W.kitOne K (.ref c_BadNumber) (.ref c_BadNumber) = some true)
    (kit_BV : PySem.W.kitOne K (.ref c_BadNumber) (.type "ValueError") = some true)
    (kit_BS : PySem.W.kitOne K (.ref c_BadNumber) (.ref c_BadStretch) = some false)
    (kit_BT : PySem.W.kitOne K (.ref c_BadNumber) (.ref c_BadText) = some false)
    : (∃ c, PySem.W.codeHdIn K c 263 = true) ∧ ∃ fd : FuncData, (∀ (s : Shared) (v : Value), BindsTo s fd ⟨[v], []⟩ [("script", v)]) ∧ ∀ base : Heap, K.In base → base.Ns mainGlobals mg → (∀ c, PySem.W.codeHdIn K c 263 = true → LamX.TabB base mg c 263) → FnG PP w K mg base CX0 LV fa fd ["script"] (spLaw K) := by
  obtain ⟨A, eA, T⟩ := all_mk X G a_SpeedError a_BadNumber a_BadStretch a_BadText a_Number pg_Number hd_Number po_Number sa_Number mk_Number kc_Number sf_Number ca_Number cm_Number n_Number_own_top n_Number_own_bottom cn ct z_super tp_any lC_BadNumber rv_BadNumber sa_BadNumber ex_BadNumber ty_BadNumber kc_BadNumber in_BadNumber ti_BadNumber lf_BadNumber hc_BadNumber lk_BadNumber vs_BadNumber fi_BadNumber lc_BadNumber ms_BadNumber sv_BadNumber sp_BadNumber no_BadNumber ga_BadNumber gg_BadNumber hd_BadNumber ca_BadNumber cm_BadNumber su_BadNumber_SpeedError ic_SpeedError sb_SpeedError tt_SpeedError a_is_integer l_is_integer hc_is_integer k_is_integer a_shared_divisor l_shared_divisor hc_shared_divisor k_shared_divisor a_Number_init i_Number_init l_Number_init hc_Number_init k_Number_init lT_Number_init at_Number_top gt_Number_top tk_Number_top rc_Number_top l_Number_top hc_Number_top k_Number_top at_Number_bottom gt_Number_bottom tk_Number_bottom rc_Number_bottom l_Number_bottom hc_Number_bottom k_Number_bottom a_law_pot l_law_pot hc_law_pot k_law_pot a_law_take l_law_take hc_law_take k_law_take a_law_of l_law_of hc_law_of k_law_of a_law_least l_law_least hc_law_least k_law_least a_law_any l_law_any hc_law_any k_law_any a_law_is_int l_law_is_int hc_law_is_int k_law_is_int a_law_heard l_law_heard hc_law_heard k_law_heard a_law_is_right l_law_is_right hc_law_is_right ch_law_is_right k_law_is_right a_law l_law hc_law k_law z_isinstance z_int z_bool z_abs z_len z_max z_min z_range z_repr z_ValueError kit_BB kit_BV kit_BS kit_BT
  have e := hfa.symm.trans (PySem.W.mg_of X G a_law)
  cases e
  refine ⟨⟨_, ch_law_is_right⟩, A.d_law, fun s v => ?_, fun base _ _ TB => eA ▸ (ok_law T TB).mono (by decide)⟩
  obtain ⟨oc, od, kV, doc, pm, an, cdv, ct, osl, hfd, _, _⟩ := T.F_law.ex
  rw [hfd]
  exact .of_eq rfl
end Q
open PySem PySem.W PyProof.Rows
set_option maxRecDepth 100000 in
set_option maxHeartbeats 0 in
theorem PySem.Challenge.cw_whatspeed_k01_numbers_of_any_value_holds : PySem.Challenge.rw_whatspeed_k01_numbers_of_any_value.Holds := by
  w_on; o_law; k_head; (case hw => w_witness2)
  k_fill
  refine Q.walk (l := PySem.Challenge.rw_whatspeed_k01_numbers_of_any_value) rfl rfl (fun w h Y => PySem.W.km_in_of Y) (fun w h Y => PySem.W.km_tabs_of Y 263 (by simp)) (fun w => by rfl) ?F
  case F =>
    intro w mg fa h KX G hmg
    refine' Q.law_mk KX G hmg ?a_SpeedError ?a_BadNumber ?a_BadStretch ?a_BadText ?a_Number ?pg_Number ?hd_Number ?po_Number ?sa_Number ?mk_Number ?kc_Number ?sf_Number ?ca_Number ?cm_Number ?n_Number_own_top ?n_Number_own_bottom ?cn ?ct ?z_super ?tp_any ?lC_BadNumber ?rv_BadNumber ?sa_BadNumber ?ex_BadNumber ?ty_BadNumber ?kc_BadNumber ?in_BadNumber ?ti_BadNumber ?lf_BadNumber ?hc_BadNumber ?lk_BadNumber ?vs_BadNumber ?fi_BadNumber ?lc_BadNumber ?ms_BadNumber ?sv_BadNumber ?sp_BadNumber ?no_BadNumber ?ga_BadNumber ?gg_BadNumber ?hd_BadNumber ?ca_BadNumber ?cm_BadNumber ?su_BadNumber_SpeedError ?ic_SpeedError ?sb_SpeedError ?tt_SpeedError ?a_is_integer ?l_is_integer ?hc_is_integer ?k_is_integer ?a_shared_divisor ?l_shared_divisor ?hc_shared_divisor ?k_shared_divisor ?a_Number_init ?i_Number_init ?l_Number_init ?hc_Number_init ?k_Number_init ?lT_Number_init ?at_Number_top ?gt_Number_top ?tk_Number_top ?rc_Number_top ?l_Number_top ?hc_Number_top ?k_Number_top ?at_Number_bottom ?gt_Number_bottom ?tk_Number_bottom ?rc_Number_bottom ?l_Number_bottom ?hc_Number_bottom ?k_Number_bottom ?a_law_pot ?l_law_pot ?hc_law_pot ?k_law_pot ?a_law_take ?l_law_take ?hc_law_take ?k_law_take ?a_law_of ?l_law_of ?hc_law_of ?k_law_of ?a_law_least ?l_law_least ?hc_law_least ?k_law_least ?a_law_any ?l_law_any ?hc_law_any ?k_law_any ?a_law_is_int ?l_law_is_int ?hc_law_is_int ?k_law_is_int ?a_law_heard ?l_law_heard ?hc_law_heard ?k_law_heard ?a_law_is_right ?l_law_is_right ?hc_law_is_right ?ch_law_is_right ?k_law_is_right ?a_law ?l_law ?hc_law ?k_law ?z_isinstance ?z_int ?z_bool ?z_abs ?z_len ?z_max ?z_min ?z_range ?z_repr ?z_ValueError ?kit_BB ?kit_BV ?kit_BS ?kit_BT
    (case a_SpeedError => k_is)
    (case a_BadNumber => k_is)
    (case a_BadStretch => k_is)
    (case a_BadText => k_is)
    (case a_Number => k_is)
    (case pg_Number => k_is)
    (case hd_Number => k_is)
    (case po_Number => k_is)
    (case sa_Number => k_is)
    (case mk_Number => k_is)
    (case kc_Number => k_is)
    (case sf_Number => k_is)
    (case ca_Number => k_is)
    (case cm_Number => k_is)
    (case n_Number_own_top => k_is)
    (case n_Number_own_bottom => k_is)
    (case cn => k_is)
    (case ct => k_is)
    (case z_super => k_is)
    (case tp_any => k_is)
    (case lC_BadNumber => k_is)
    (case rv_BadNumber => rfl)
    (case sa_BadNumber => k_is)
    (case ex_BadNumber => k_is)
    (case ty_BadNumber => k_is)
    (case kc_BadNumber => k_is)
    (case in_BadNumber => k_is)
    (case ti_BadNumber => k_is)
    (case lf_BadNumber => k_is)
    (case hc_BadNumber => k_is)
    (case lk_BadNumber => k_is)
    (case vs_BadNumber => rfl)
    (case fi_BadNumber => kernel_rfl)
    (case lc_BadNumber => k_is)
    (case ms_BadNumber => k_is)
    (case sv_BadNumber => k_is)
    (case sp_BadNumber => kernel_rfl)
    (case no_BadNumber => k_is)
    (case ga_BadNumber => k_is)
    (case gg_BadNumber => k_is)
    (case hd_BadNumber => k_is)
    (case ca_BadNumber => k_is)
    (case cm_BadNumber => k_is)
    (case su_BadNumber_SpeedError => k_is)
    (case ic_SpeedError => k_is)
    (case sb_SpeedError => k_is)
    (case tt_SpeedError => k_is)
    (case a_is_integer => k_is)
    (case l_is_integer => k_is)
    (case hc_is_integer => k_is)
    (case k_is_integer => k_is)
    (case a_shared_divisor => k_is)
    (case l_shared_divisor => k_is)
    (case hc_shared_divisor => k_is)
    (case k_shared_divisor => k_is)
    (case a_Number_init => k_is)
    (case i_Number_init => k_is)
    (case l_Number_init => k_is)
    (case hc_Number_init => k_is)
    (case k_Number_init => k_is)
    (case lT_Number_init => k_is)
    (case at_Number_top => k_is)
    (case gt_Number_top => k_is)
    (case tk_Number_top => k_is)
    (case rc_Number_top => k_is)
    (case l_Number_top => k_is)
    (case hc_Number_top => k_is)
    (case k_Number_top => k_is)
    (case at_Number_bottom => k_is)
    (case gt_Number_bottom => k_is)
    (case tk_Number_bottom => k_is)
    (case rc_Number_bottom => k_is)
    (case l_Number_bottom => k_is)
    (case hc_Number_bottom => k_is)
    (case k_Number_bottom => k_is)
    (case a_law_pot => k_is)
    (case l_law_pot => k_is)
    (case hc_law_pot => k_is)
    (case k_law_pot => k_is)
    (case a_law_take => k_is)
    (case l_law_take => k_is)
    (case hc_law_take => k_is)
    (case k_law_take => k_is)
    (case a_law_of => k_is)
    (case l_law_of => k_is)
    (case hc_law_of => k_is)
    (case k_law_of => k_is)
    (case a_law_least => k_is)
    (case l_law_least => k_is)
    (case hc_law_least => k_is)
    (case k_law_least => k_is)
    (case a_law_any => k_is)
    (case l_law_any => k_is)
    (case hc_law_any => k_is)
    (case k_law_any => k_is)
    (case a_law_is_int => k_is)
    (case l_law_is_int => k_is)
    (case hc_law_is_int => k_is)
    (case k_law_is_int => k_is)
    (case a_law_heard => k_is)
    (case l_law_heard => k_is)
    (case hc_law_heard => k_is)
    (case k_law_heard => k_is)
    (case a_law_is_right => k_is)
    (case l_law_is_right => k_is)
    (case hc_law_is_right => k_is)
    (case ch_law_is_right => exact rfl)
    (case k_law_is_right => k_is)
    (case a_law => k_is)
    (case l_law => k_is)
    (case hc_law => k_is)
    (case k_law => k_is)
    (case z_isinstance => k_is)
    (case z_int => k_is)
    (case z_bool => k_is)
    (case z_abs => k_is)
    (case z_len => k_is)
    (case z_max => k_is)
    (case z_min => k_is)
    (case z_range => k_is)
    (case z_repr => k_is)
    (case z_ValueError => k_is)
    (case kit_BB => kit_is)
    (case kit_BV => kit_is)
    (case kit_BS => kit_is)
    (case kit_BT => kit_is)
