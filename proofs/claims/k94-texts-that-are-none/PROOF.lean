import PyProof.Rows.All
import Wide.All
import OpenK.AllK
import Wide.FinOn
import KE.KOpsOwn
import KE.RegKIsAll
import HandS.ForMost
import HandS.ForExc
import HandS.Wide
import HandS.IsInst
import HandS.Property
import HandS.Star
import HandS.SlotsOwn
import HandS.MakeKw
import HandS.Evl
import HandS.Style
import HandS.MakeKwOnly
import HandS.TupSets
import HandS.Small
import PyProof.MeetsIn
import PyProof.CallType
import PyProof.Conv_bool
import HandS.Defaults
import KE.DataFind
import HandS.TryOnly
import HandS.FStr
import HandS.Text
import HandS.Codes
import HandS.More
import HandS.Steps
import KE.KSuper
import KE.KExcSuper
import KE.KExcIs
import HandS.Exc
import HandS.ExcOwn
import HandS.ExcInit
import HandS.ExcValue
import HandS.ExcField
import HandS.WordsExc
import HandS.OwnEq
import HandS.Zip
import HandS.Walk
import KE.IntTextText
import HandS.DeepEq
import PySem.Challenge.RW_whatspeed_k94_texts_that_are_none
set_option Elab.async false
set_option linter.all false
set_option maxRecDepth 100000
set_option maxHeartbeats 2000000
namespace WL
open PySem PySem.Spec PyProof.Rows L2

/-! ### operators that the bundles lack -/
def CPowW (i j : Int) : Prop := 0 ≤ j ∧ (Builtin.Int.intBits i : Int) * j ≤ 2 ^ 27
def CDivG (i j : Int) : Prop := j ≠ 0 ∧ j.natAbs.log2 < 9000
section
variable {X : Cx}
theorem op_powW : OpR X (binaryOp .Pow) (rI CPowW fun i j => .int (i ^ j.toNat)) := opI fun _ _ _ _ _ _ _ hc q => pow_int hc.1 hc.2 q
theorem op_fdivG : OpR X (binaryOp .FloorDiv) (rI CDivG fun i j => .int (i.fdiv j)) := opI fun _ _ _ _ _ _ _ hc q =>
  floordiv_int hc.1 q (.inl (PyProof.noPylong_of_log2 hc.2))
end

/-! ### an own class's operators: x op y, both instances of the class at C -/
def rOwn2 (C : Addr) (sp : Sp) (E : XK) : R2 := fun x y H Q => ∃ a dx fs b dy gs, x = .ref a ∧ y = .ref b ∧ H a = some (.ins C dx fs) ∧ H b = some (.ins C dy gs) ∧ sp [x, y] H Q E
/-- x == y, x an instance of the class at C, y of a type that is not below it -/
def rOwnEq (K : PySem.W.Frag) (C : Addr) (sp : Sp) (E : XK) : R2 := fun x y H Q => ∃ a dx fs t, x = .ref a ∧ H a = some (.ins C dx fs) ∧ TyX K H y t ∧ PySem.W.notFirst K C t = true ∧ sp [x, y] H Q E
section
variable {X : Cx} {CX : CXT} {n : Nat} {C g : Addr} {fd : FuncData} {ps : List Str} {sp : Sp} {E : XK}
theorem op_own2 {op : Operator} (F : FnOk X.prog X.w X.K X.mg X.base CX n g fd ps sp) (hb : Binds X.K fd ps []) (hs : PySem.W.findIn X.K (.ref C) (PySem.dunder op.info.2) = some (some (.ref g)))
    (hf : PySem.W.isFn X.K (.ref g) = true) (hc : PySem.W.selfFirst X.K C = true) (hr : Room n X.A) (hx : Passes CX X E) : OpR X (binaryOp op) (rOwn2 C sp E) := by
  intro pins s σ H x y v u Q I rx ry h
  obtain ⟨a, dx, fs, b, dy, gs, rfl, rfl, ha, hb', q⟩ := h
  cases (show v = Value.ref a from rx)
  cases (show u = Value.ref b from ry)
  obtain ⟨mA, J, _⟩ := ins_get I.hok ha
  obtain ⟨mB, J', _⟩ := ins_get I.hok hb'
  obtain ⟨od, J, _⟩ := J.look
  obtain ⟨od', J', _⟩ := J'.look
  obtain ⟨m, hF⟩ := I.fr
  refine PySem.W.binop_K hF I.ok.mod.kin J J'.type hc hs hf ?_
  refine wpAny_mono (run_fn (us := [.ref a, .ref b]) (vs := [.ref a, .ref b]) (dvs := []) (ds := []) F hr hb .nil hx I (.cons rfl (.cons rfl .nil)) q) (fun w s' z => ?_) fun _ _ x => x
  obtain ⟨z', H', I', rz, qz⟩ := z
  exact SlX.cmpback rz ⟨z', H', I', rz, qz⟩
theorem op_ownEq (F : FnOk X.prog X.w X.K X.mg X.base CX n g fd ps sp) (hb : Binds X.K fd ps []) (hs : PySem.W.findIn X.K (.ref C) "__eq__" = some (some (.ref g)))
    (hf : PySem.W.isFn X.K (.ref g) = true) (hr : Room n X.A) (hx : Passes CX X E) : OpR X (compareOp .Eq) (rOwnEq X.K C sp E) := by
  intro pins s σ H x y v u Q I rx ry h
  obtain ⟨a, dx, fs, t, rfl, ha, ty, hn, q⟩ := h
  cases (show v = Value.ref a from rx)
  obtain ⟨mA, J, _⟩ := ins_get I.hok ha
  obtain ⟨od, J, _⟩ := J.look
  obtain ⟨m, hF⟩ := I.fr
  obtain ⟨P, Z, p, _⟩ := kit_of I ry ty
  show wpAny (model X.prog X.w) X.A (richCompare .Eq (.ref a) u) (EP X pins σ Q) X.xe s
  refine PySem.W.cmp_K (op := .Eq) hr.units0 hF I.ok.mod.kin J (Z.ty _ _ I.kIn p) hn hs hf ?_
  refine wpAny_mono (run_fn (us := [.ref a, u]) (vs := [.ref a, y]) (dvs := []) (ds := []) F hr hb .nil hx I (.cons rfl (.cons ry .nil)) q) (fun w s' z => ?_) fun _ _ x => x
  obtain ⟨z', H', I', rz, qz⟩ := z
  exact SlX.cmpback rz ⟨z', H', I', rz, qz⟩
/-- -x -/
def rOwn1 (C : Addr) (sp : Sp) (E : XK) : V → Hp → VK → Prop := fun x H Q => ∃ a dx fs, x = .ref a ∧ H a = some (.ins C dx fs) ∧ sp [x] H Q E
theorem un_ownNeg (F : FnOk X.prog X.w X.K X.mg X.base CX n g fd ps sp) (hb : Binds X.K fd ps []) (hs : PySem.W.findIn X.K (.ref C) "__neg__" = some (some (.ref g)))
    (hf : PySem.W.isFn X.K (.ref g) = true) (hr : Room n X.A) (hx : Passes CX X E) : UnR X (unaryOp .USub) (rOwn1 C sp E) := by
  intro pins s σ H x v Q I rx h
  obtain ⟨a, dx, fs, rfl, ha, q⟩ := h
  cases (show v = Value.ref a from rx)
  obtain ⟨mA, J, _⟩ := ins_get I.hok ha
  obtain ⟨od, J, _⟩ := J.look
  obtain ⟨m, hF⟩ := I.fr
  exact PySem.W.ksp_neg hF I.ok.mod.kin J hs hf (run_fn (us := [.ref a]) (vs := [.ref a]) (dvs := []) (ds := []) F hr hb .nil hx I (.cons rfl .nil) q)
end

/-! ### x != y by an own __eq__ and object's __ne__ -/
section
variable {prog : Program} {w : World} {A : Around} {E : Value → Shared → Prop} {s : Shared} {K : PySem.W.Frag} {x C f L : Addr} {h₀ : Heap} {m : Str → Option Value} {ox : Obj} {od : Option Obj} {b tb : Value}
theorem ne_entry (X : K.In s.heap) (I : PySem.W.InstAt s.heap x ox C od) (hu : A.units < cLine) (hs : PySem.W.findIn K (.ref C) "__eq__" = some (some (.ref f))) (hf : PySem.W.isFn K (.ref f) = true) {Q : Fin → Shared → Prop}
    (h : wpAny (model prog w) A (call (.ref f) [.ref x, b]) (fun v s' => ∃ r, v = .bool r ∧ Q (.done (.ret (.bool (!r)))) s') E s) :
    wpAny (model prog w) A (Builtin.«object.__ne__» ⟨[.ref x, b], []⟩) Q E s := by
  unfold Builtin.«object.__ne__»
  repeat (first
    | with_reducible refine wpAny_cRoomFor hu ?_
    | (refine wpAny_bind (m := callSpecialIfBound? (.ref x) (Str.ofString "__eq__") [b])
        (PySem.W.ifBound_K X I hs hf (wpAny_mono h (fun r s' hr => by
          obtain ⟨b, rfl, hq⟩ := hr
          repeat (first | exact hq | exact wpAny_pure hq | exact wpAny_truthy_bool hq | (refine wpAny_bind (m := truthy (.bool _)) (wpAny_truthy_bool ?_)) | wp_step)) fun _ _ e => e)))
    | wp_step)
theorem try_ne (X : K.In s.heap) (I : PySem.W.InstAt s.heap x ox C od) (hu : A.units + 1 < cLine) (hne : PySem.W.findIn K (.ref C) "__ne__" = some (some (.builtin "object.__ne__"))) (hm : PySem.W.mroIn K C (.type "object") = some true)
    (hs : PySem.W.findIn K (.ref C) "__eq__" = some (some (.ref f))) (hf : PySem.W.isFn K (.ref f) = true) {Q : Option Value → Shared → Prop}
    (h : wpAny (model prog w) A.in1 (call (.ref f) [.ref x, b]) (fun v s' => ∃ r, v = .bool r ∧ Q (some (.bool (!r))) s') E s) :
    wpAny (model prog w) A (tryCompare (.ref x) "__ne__" b) Q E s := by
  unfold tryCompare
  simp only [callSpecialIfBound?, bindSpecialIfBound?]
  refine wpAny_bind (wpAny_holding (wpAny_bind (wpAny_bind (wpAny_bind (I.type.here ((PySem.W.looks_findIn X hne).here ?_))))))
  have call_it : ∀ {Q' : Value → Shared → Prop}, (∀ r s', Q (some (.bool (!r))) s' → Q' (.bool (!r)) s') → wpAny (model prog w) A (call (.builtin "object.__ne__") [.ref x, b]) Q' E s := fun hq =>
    wpAny_call (codeAny_call_builtin F.cmp_object.ne.plain F.cmpEntry_ne (PySem.W.check_slot F.cmpKind_ne F.cmpSplit_ne (I.type.andThen (PySem.W.looks_mroIn X hm)) (F.cmpArgs_ne _ _)
      (ne_entry (A := A.in1) X I hu hs hf (wpAny_mono h (fun v s' hv => by
        obtain ⟨r, rfl, hq'⟩ := hv
        first | exact ⟨r, rfl, hq _ _ hq'⟩ | exact ⟨r, rfl, wpAny_pure (hq _ _ hq')⟩) fun _ _ e => e))))
  simp only [F.cmp_object.ne.bind]
  refine wpAny_bind (wpAny_askSetting (wpAny_ite ?_))
  have fin : wpAny (model prog w) A (call (.builtin "object.__ne__") ([.ref x] ++ [b]) >>= fun v => pure (some v)) (fun r s' => wpAny (model prog w) A (match r with | some .notImplemented => pure none | none => pure none | some v => pure (some v)) Q E s') E s :=
    wpAny_bind (call_it fun r s' q => wpAny_pure (wpAny_pure q))
  split
  · exact wpAny_bind (wpAny_pure (wpAny_pure (by first | exact fin | exact wpAny_mono fin (fun _ _ z => z) fun _ _ z => z)))
  · exact wpAny_tryCatch (wpAny_bind (wpAny_pure (wpAny_pure (by first | exact fin | exact wpAny_mono fin (fun _ _ z => z) fun _ _ z => z))))
theorem ne_K {Q : Value → Shared → Prop} (hu : A.units + 1 < cLine) (X : K.In s.heap) (I : PySem.W.InstAt s.heap x ox C od) (hb : PySem.W.Looks (model prog w) s.heap (typeOf b) tb) (hn : PySem.W.notFirst K C tb = true)
    (hne : PySem.W.findIn K (.ref C) "__ne__" = some (some (.builtin "object.__ne__"))) (hm : PySem.W.mroIn K C (.type "object") = some true) (hs : PySem.W.findIn K (.ref C) "__eq__" = some (some (.ref f))) (hf : PySem.W.isFn K (.ref f) = true)
    (h : wpAny (model prog w) A.in1 (call (.ref f) [.ref x, b]) (fun v s' => ∃ r, v = .bool r ∧ Q (.bool (!r)) s') E s) : wpAny (model prog w) A (richCompare .NotEq (.ref x) b) Q E s := by
  have one : wpAny (model prog w) A (tryCompare (.ref x) "__ne__" b) (fun r s' => ∃ v, r = some v ∧ Q v s') E s := try_ne X I hu hne hm hs hf (wpAny_mono h (fun v s' hv => by
    obtain ⟨r, rfl, q⟩ := hv
    exact ⟨r, rfl, _, rfl, q⟩) fun _ _ e => e)
  unfold richCompare
  simp only [oneThing_ref]
  refine wpAny_holding (wpAny_bind (wpAny_cRoomFor (by omega) ?_))
  refine wpAny_bind (I.type.here (wpAny_bind (hb.here ?_)))
  split
  · rename_i q
    have e : PySem.W.subIn K tb (.ref C) = some false := by
      rcases Bool.or_eq_true_iff.mp hn with e | e
      · rw [beq_iff_eq.mp e] at q; simp at q
      · exact beq_iff_eq.mp e
    refine wpAny_bind ((PySem.W.looks_subIn X e).here ?_)
    simp only [Bool.false_eq_true, if_false]
    refine wpAny_bind (wpAny_mono one (fun r s' z => ?_) fun _ _ e => e)
    obtain ⟨v, rfl, hq⟩ := z
    exact wpAny_pure hq
  · refine wpAny_bind (wpAny_pure ?_)
    simp only [Bool.false_eq_true, if_false]
    refine wpAny_bind (wpAny_mono one (fun r s' z => ?_) fun _ _ e => e)
    obtain ⟨v, rfl, hq⟩ := z
    exact wpAny_pure hq
end
/-- x != y -/
def rOwnNe (K : PySem.W.Frag) (C : Addr) (sp : Sp) (E : XK) : R2 := fun x y H Q => ∃ a dx fs t, x = .ref a ∧ H a = some (.ins C dx fs) ∧ TyX K H y t ∧ PySem.W.notFirst K C t = true ∧ sp [x, y] H (fun z H' => ∃ r, z = .bl r ∧ Q (.bl (!r)) H') E
theorem op_ownNe {X : Cx} (K : PySem.W.Frag) {CX : CXT} {n : Nat} {C g : Addr} {fd : FuncData} {ps : List Str} {sp : Sp} {E : XK} (F : FnOk X.prog X.w X.K X.mg X.base CX n g fd ps sp) (hb : Binds X.K fd ps []) (hne : PySem.W.findIn X.K (.ref C) "__ne__" = some (some (.builtin "object.__ne__"))) (hm : PySem.W.mroIn X.K C (.type "object") = some true)
    (hs : PySem.W.findIn X.K (.ref C) "__eq__" = some (some (.ref g))) (hf : PySem.W.isFn X.K (.ref g) = true) (hr : Room (n + 1) X.A) (hx : Passes CX X E) (hK : X.K = K := by rfl) : OpR X (compareOp .NotEq) (rOwnNe K C sp E) := by
  subst hK
  intro pins s σ H x y v u Q I rx ry h
  obtain ⟨a, dx, fs, t, rfl, ha, ty, hn, q⟩ := h
  cases (show v = Value.ref a from rx)
  obtain ⟨mA, J, _⟩ := ins_get I.hok ha
  obtain ⟨od, J, _⟩ := J.look
  obtain ⟨P, Z, p, _⟩ := kit_of I ry ty
  show wpAny (model X.prog X.w) X.A (richCompare .NotEq (.ref a) u) (EP X pins σ Q) X.xe s
  refine ne_K (by have := hr.un; omega) I.kIn J (Z.ty _ _ I.kIn p) hn hne hm hs hf ?_
  have hl := F.len _ _ _ _ q
  refine wpAny_call (codeAny_mono (F.run X.A.in1 X.stack s H ⟨[.ref a, u], []⟩ [.ref a, u] [.ref a, y] _ E hr.in1 I.env0.in1 (by
    have := hb s [.ref a, u] I.kIn (by simpa using hl)
    simpa using this) (.cons rfl (.cons ry .nil)) q) fun r s' hq => ?_)
  cases r with
  | error e => exact hx pins σ H s e s' I hq
  | ok fl =>
    cases fl with
    | ret u =>
      obtain ⟨z, H', I', rz, r, ez, q'⟩ := I.after hq
      subst ez
      cases (show u = Value.bool r from rz)
      exact ⟨r, rfl, .bl (!r), H', I', rfl, q'⟩
    | next => exact False.elim hq
    | brk => exact False.elim hq
    | cont => exact False.elim hq
/-! ### calls by keywords: f(e, .., k = v), o.m(e, .., k = v) -/
def tMethK (C : Addr) (m : Str) (n mm : Nat) (sp : Sp) (gV : List V → List V → List V) (E : XK) (ta : TE) (t tk : TA) : TE := fun σ H Q => ta σ H fun x H1 => ∃ a dx fs, x = .ref a ∧ H1 a = some (.ins C dx fs) ∧ fs.lookup m = none ∧
  t σ H1 fun vs H2 => tk σ H2 fun zs H3 => vs.length = n ∧ zs.length = mm ∧ sp (gV (x :: vs) zs) H3 Q E
def tCallKN (n mm : Nat) (sp : Sp) (gV : List V → List V → List V) (E : XK) (t tk : TA) : TE := fun σ H Q => t σ H fun vs H2 => tk σ H2 fun zs H3 => vs.length = n ∧ zs.length = mm ∧ sp (gV vs zs) H3 Q E
theorem kbn_of {K : PySem.W.Frag} {x qual : Str} {st : Stmt} {f : Addr} {fd : FuncData} {ps : List Str} (F : Fun K x qual st f fd) (n : Nat) (ks : List Str) (g : {α : Type} → List α → List α → List α)
    (hrel : ∀ {vs zs : List V} {us ws : List Value}, Vals vs us → Vals zs ws → Vals (g vs zs) (g us ws))
    (h : ∀ (kV doc pm : Value) (an : Option Addr) (cdv ct : Value) (us ws : List Value), us.length = n → ws.length = ks.length →
      bindArgs (PySem.W.fnOf x qual (defArgs st) (defBody st) (defScope st) .none kV doc pm an cdv ct) ⟨us, ks.zip ws⟩ = pure (ps.zip (g us ws))) : KBn K fd ps n ks (fun us ws => g us ws) (fun vs zs => g vs zs) := by
  obtain ⟨oc, od, kV, doc, pm, an, cdv, ct, osl, rfl, lk, hcd⟩ := F.ex
  exact ⟨fun s us ws X l1 l2 => .of_eq (h kV doc pm an cdv ct us ws l1 l2), fun r1 r2 => hrel r1 r2⟩
section
variable {X : Cx} {CX : CXT} {k n : Nat} {f C : Addr} {fd : FuncData} {ps ks : List Str} {sp : Sp} {E : XK} {x m : Str} {p pos apos : Pos} {o e : Expr} {es : List Expr} {kws : List Keyword} {ta : TE} {t tk : TA} {g : List Value → List Value → List Value} {gV : List V → List V → List V}
theorem run_fnN {pins : List (Addr × Obj)} {σ : L2.St} {H : Hp} {s : Shared} {Q : VK} {us ws : List Value} {vs zs : List V} (F : FnOk X.prog X.w X.K X.mg X.base CX k f fd ps sp) (hr : Room k X.A) (hb : KBn X.K fd ps n ks g gV) (hx : Passes CX X E)
    (I : Inv X pins σ H s) (r : Vals vs us) (rz : Vals zs ws) (l1 : vs.length = n) (l2 : zs.length = ks.length) (h : sp (gV vs zs) H Q E) : wpAny (model X.prog X.w) X.A (call (.ref f) us (ks.zip ws)) (EP X pins σ Q) X.xe s := by
  have r2 := hb.rel r rz
  refine wpAny_call (codeAny_mono (F.run X.A X.stack s H ⟨us, ks.zip ws⟩ (g us ws) (gV vs zs) Q E hr I.env0 (hb.to s us ws I.kIn (r.length.symm.trans l1) (rz.length.symm.trans l2)) r2 h) fun r s' hq => ?_)
  cases r with
  | error e => exact hx pins σ H s e s' I hq
  | ok fl =>
    cases fl with
    | ret u => exact I.after hq
    | next => exact False.elim hq
    | brk => exact False.elim hq
    | cont => exact False.elim hq
/-- f(k = v, ..) -/
theorem pe_callK0 (F : FnOk X.prog X.w X.K X.mg X.base CX k f fd ps sp) (hr : Room k X.A) (hg : Gl X x) (hm : X.mg x = some (.ref f)) (hk : PySem.W.keepIn X.K (.ref f) = true) (hb : KBn X.K fd ps 0 ks g gV) (hx : Passes CX X E) (hkw : PK X kws tk)
    (hall : (backToKw pos (keywordEach kws X.env)).all (·.1.isSome) = true := by rfl) (hks : (backToKw pos (keywordEach kws X.env)).filterMap (·.1) = ks := by rfl) (hdb : (x == ("__debug__" : Str)) = false := by decide)
    (hpl : ((backTo pos (starEach [] X.env)).any (·.1) || (backToKw pos (keywordEach kws X.env)).any (·.1.isNone)) = false := by rfl) :
    PE X (.Call (.Name x p) [] kws pos) (tCallKN 0 ks.length sp gV E tNil tk) := by
  refine ⟨fun pins s σ H Q I h => ?_⟩
  refine wpAny_Call_Name_kw (ld_glob I hg hm ?_ hdb)
  refine PySem.W.callWith_KW0 (h₀ := X.base) I.ok.mod.kin hk hall ?_ hpl
  refine thn (hkw.run pos pins s σ H _ I h) fun ws s2 ⟨zs, H2, I2, rz, l1, l2, q2⟩ => ⟨I2.kIn, ?_⟩
  rw [hks]
  exact run_fnN (us := []) (vs := []) F hr hb hx I2 .nil rz rfl l2 q2
/-- o.m(k = v, ..) -/
theorem pe_methK0 {pl : Sem Bool} (he : PE X o ta) (c : Cls X.K C) (hm : Meth X.K C m f) (F : FnOk X.prog X.w X.K X.mg X.base CX k f fd ps sp) (hr : Room k X.A) (hb : KBn X.K fd ps 1 ks g gV) (hx : Passes CX X E) (hkw : PK X kws tk)
    (hall : (backToKw pos (keywordEach kws X.env)).all (·.1.isSome) = true := by rfl) (hks : (backToKw pos (keywordEach kws X.env)).filterMap (·.1) = ks := by rfl)
    (hpl : ((backTo pos (starEach [] X.env)).any (·.1) || (backToKw pos (keywordEach kws X.env)).any (·.1.isNone)) = false := by rfl)
    (ht : eval (.Call (.Attribute o m apos) [] kws pos) X.env = (do
      let ov ← eval o X.env
      standAt apos.atName
      let (f, first) ← holding [ov] (getMethod ov m pl)
      callWith pos f first (backTo pos (starEach [] X.env)) (backToKw pos (keywordEach kws X.env))) := by rfl) :
    PE X (.Call (.Attribute o m apos) [] kws pos) (tMethK C m 0 ks.length sp gV E ta tNil tk) := by
  refine ⟨fun pins s σ H Q I h => ?_⟩
  refine PySem.W.methodCall_KW (pl := pl) (thn (he.run pins s σ H _ I h) fun u s1 ⟨x, H1, I1, rx, a, dx, fs, ex, ea, l, q⟩ => ?_) ht
  subst ex
  obtain rfl : u = Value.ref a := rx
  refine getmeth_ok I1 ea c hm l ?_
  refine PySem.W.callWith_KW0 (first := [.ref a]) (h₀ := X.base) I.ok.mod.kin hm.kp hall ?_ hpl
  refine thn (hkw.run pos pins s1 σ H1 _ I1 q) fun ws s2 ⟨zs, H2, I2, rz, l1, l2, q2⟩ => ⟨I2.kIn, ?_⟩
  rw [hks]
  exact run_fnN (us := [.ref a]) (vs := [.ref a]) F hr hb hx I2 (.cons rfl .nil) rz rfl l2 q2
/-- f(e, ..), f an instance of the class at C -/
def tCallI (C : Addr) (sp : Sp) (dvs : List V) (E : XK) (tf : TE) (t : TA) : TE := fun σ H Q => tf σ H fun y H1 => ∃ a, y = V.ref a ∧ t σ H1 fun vs H2 => ∃ dx fs, H2 a = some (.ins C dx fs) ∧ sp (V.ref a :: (vs ++ dvs)) H2 Q E
theorem pe_callI {fe : Expr} {tf : TE} {dvs : List V} {ds : List Value} (hf : PE X fe tf) (c : StX.CallO X.K C f) (F : FnOk X.prog X.w X.K X.mg X.base CX k f fd ps sp) (hr : Room k X.A) (hb : Binds X.K fd ps ds) (hd : Vals dvs ds) (hx : Passes CX X E) (ha : PA X (e :: es) t)
    (ht : eval (.Call fe (e :: es) [] pos) X.env = (do callWith pos (← eval fe X.env) [] (backTo pos (starEach (e :: es) X.env)) (backToKw pos (keywordEach [] X.env))) := by rfl)
    (he : starEach (e :: es) X.env = (false, eval e X.env) :: starEach es X.env := by rfl) (hpl : (backTo pos (starEach es X.env)).any (·.1) = false := by rfl) : PE X (.Call fe (e :: es) [] pos) (tCallI C sp dvs E tf t) := by
  refine ⟨fun pins s σ H Q I h => ?_⟩
  refine Call_ (thn (hf.run pins s σ H _ I h) fun u s1 ⟨y, H1, I1, ry, a, ey, q⟩ => ?_) ht
  subst ey
  obtain rfl : u = Value.ref a := ry
  refine StX.callO_with (thn (ha.run pos pins s1 σ H1 _ I1 q) fun us s2 ⟨vs, H2, I2, r, dx, fs, hi, q2⟩ => ?_) he hpl
  obtain ⟨ox, od, J, hdt⟩ := StX.insC_at I2 (.inr ⟨dx, fs, hi⟩)
  exact ⟨⟨C, ox, od, J, hdt⟩, StX.run_callO c (F.raw hb hd) hr hx I2 (.inr ⟨dx, fs, hi⟩) r q2⟩
end
/-! ### the rules whose readings name the written part, with it told (for a comprehension's block) -/
section
variable {X : Cx} (K : PySem.W.Frag)
theorem ixT (h : X.K = K := by rfl) : IxR X (rIxT K) := h ▸ ix_tup
theorem ixL (h : X.K = K := by rfl) : IxR X (rIxL K) := h ▸ ix_list
theorem cIsi (h : X.K = K := by rfl) : CallR X (.builtin "isinstance") (rIsi K) := h ▸ call_isi
theorem opEqD (hu : X.A.units + 64 < cLine) (h : X.K = K := by rfl) : OpR X (compareOp .Eq) (rEqD K) := h ▸ op_eqD hu
theorem opNeD (hu : X.A.units + 64 < cLine) (h : X.K = K := by rfl) : OpR X (compareOp .NotEq) (rNeD K) := h ▸ op_neD hu
theorem peFld {e : Expr} {f : Str} {pos : Pos} {ta : TE} (he : PE X e ta) (hb : attributeBase e f X.env (eval e X.env) = eval e X.env := by rfl) (h : X.K = K := by rfl) : PE X (.Attribute e f pos) (tFld K ta f) := h ▸ pe_fld he hb
theorem opOwnEq {CX : CXT} {n : Nat} {C g : Addr} {fd : FuncData} {ps : List Str} {sp : Sp} {E : XK} (F : FnOk X.prog X.w X.K X.mg X.base CX n g fd ps sp) (hb : Binds X.K fd ps []) (hs : PySem.W.findIn X.K (.ref C) "__eq__" = some (some (.ref g)))
    (hf : PySem.W.isFn X.K (.ref g) = true) (hr : Room n X.A) (hx : Passes CX X E) (h : X.K = K := by rfl) : OpR X (compareOp .Eq) (rOwnEq K C sp E) := h ▸ op_ownEq F hb hs hf hr hx
theorem piList {tg l : Expr} {tl : TE} (hl : PE X l tl) (h : X.K = K := by rfl) : PI X tg l (iList K tl) := h ▸ pi_list hl
theorem piTup {tg l : Expr} {tl : TE} (hl : PE X l tl) (h : X.K = K := by rfl) : PI X tg l (iTup K tl) := h ▸ pi_tup hl
theorem pgTup (n : Nat) {es : List Expr} {k : Nat} {t : TGs} {pos : Pos} (hc : X.calm = true) (hh : PGs X es t)
    (hn : (assignEach es X.env).length = n := by rfl) (hst : (assignEach es X.env).findIdx? (·.1) = none := by rfl) (h : X.K = K := by rfl) : PG X (.Tuple es k pos) (gTup K n t) := h ▸ pg_tup hc hh hn hst
end
theorem stT {σ σ' : L2.St} {ta tb : TS} {D : Ends} {H : Hp} (e : σ = σ') (h : tSeq ta tb D σ' H) : tSeq ta tb D σ H := e ▸ h
end WL
namespace WM
/-! ### fractions: core Rat -/
theorem gcd_pos {t b : Int} (hb : b ≠ 0) : 0 < b.gcd t := Int.gcd_pos_of_ne_zero_left _ hb
theorem fdiv_pos' {a : Int} {g : Nat} (hg : 0 < g) : a.fdiv (g : Int) = a / (g : Int) := Int.fdiv_eq_ediv_of_nonneg _ (by omega)
theorem fdiv_dvd {a k g : Int} (hg : g ≠ 0) (h : a = g * k) : a.fdiv g = k := by
  subst h
  rw [Int.mul_comm]
  exact Int.mul_fdiv_cancel _ hg
theorem ediv_dvd {a k g : Int} (hg : g ≠ 0) (h : a = g * k) : a / g = k := by
  subst h
  exact Int.mul_ediv_cancel_left _ hg
/-- what Number keeps above the stroke -/
theorem make_num {t b : Int} {g : Nat} (hb : b ≠ 0) (e : g = Nat.gcd t.natAbs b.natAbs) : t.fdiv (if b < 0 then -(g : Int) else (g : Int)) = (Rat.divInt t b).num := by
  have eg : b.gcd t = g := by rw [e, Int.gcd, Nat.gcd_comm]
  have hg : 0 < g := eg ▸ gcd_pos hb
  rw [Rat.num_divInt, eg]
  have hd : (g : Int) ∣ t := by rw [← eg]; exact Int.gcd_dvd_right ..
  obtain ⟨k, hk⟩ := hd
  have hg' : (g : Int) ≠ 0 := by omega
  by_cases hn : b < 0
  · rw [if_pos hn, Int.sign_eq_neg_one_of_neg hn, fdiv_dvd (k := -k) (by omega) (by rw [hk, Int.neg_mul_neg]), ediv_dvd (k := -k) hg' (by rw [hk, Int.neg_one_mul, Int.mul_neg])]
  · rw [if_neg hn, Int.sign_eq_one_of_pos (by omega), fdiv_dvd hg' hk, ediv_dvd (k := k) hg' (by rw [hk, Int.one_mul])]
theorem make_den {t b : Int} {g : Nat} (hb : b ≠ 0) (e : g = Nat.gcd t.natAbs b.natAbs) : b.fdiv (if b < 0 then -(g : Int) else (g : Int)) = ((Rat.divInt t b).den : Int) := by
  have eg : b.gcd t = g := by rw [e, Int.gcd, Nat.gcd_comm]
  have hg : 0 < g := eg ▸ gcd_pos hb
  rw [Rat.den_divInt, if_neg hb, eg]
  have hd : (g : Int) ∣ b := by rw [← eg]; exact Int.gcd_dvd_left ..
  obtain ⟨k, hk⟩ := hd
  have hg' : (g : Int) ≠ 0 := by omega
  have h2 : b.natAbs / g = k.natAbs := by
    rw [hk, Int.natAbs_mul, Int.natAbs_natCast]
    exact Nat.mul_div_cancel_left _ hg
  have hp : 0 < (g : Int) := by omega
  rw [h2]
  by_cases hn : b < 0
  · rw [if_pos hn, fdiv_dvd (k := -k) (by omega) (by rw [hk, Int.neg_mul_neg])]
    have : k < 0 := by
      rcases Int.lt_or_le k 0 with h | h
      · exact h
      · have := Int.mul_nonneg (Int.le_of_lt hp) h
        omega
    omega
  · rw [if_neg hn, fdiv_dvd hg' hk]
    have : 0 ≤ k := by
      rcases Int.lt_or_le k 0 with h | h
      · have := Int.mul_neg_of_pos_of_neg hp h
        omega
      · exact h
    omega
/-- what a law's own reduction gives: sign * t // g, |b| // g -/
theorem least_num {t b : Int} {g : Nat} (hb : b ≠ 0) (e : g = Nat.gcd t.natAbs b.natAbs) : ((if b < 0 then -1 else 1) * t).fdiv (g : Int) = (Rat.divInt t b).num := by
  have eg : b.gcd t = g := by rw [e, Int.gcd, Nat.gcd_comm]
  have hg : 0 < g := eg ▸ gcd_pos hb
  rw [Rat.num_divInt, eg, fdiv_pos' hg]
  by_cases hn : b < 0
  · rw [if_pos hn, Int.sign_eq_neg_one_of_neg hn]
  · rw [if_neg hn, Int.sign_eq_one_of_pos (by omega)]
theorem least_den {t b : Int} {g : Nat} (hb : b ≠ 0) (e : g = Nat.gcd t.natAbs b.natAbs) : (if b < 0 then -b else b).fdiv (g : Int) = ((Rat.divInt t b).den : Int) := by
  have eg : b.gcd t = g := by rw [e, Int.gcd, Nat.gcd_comm]
  have hg : 0 < g := eg ▸ gcd_pos hb
  rw [Rat.den_divInt, if_neg hb, eg, fdiv_pos' hg]
  have : (if b < 0 then -b else b) = (b.natAbs : Int) := by split <;> omega
  rw [this]
  rfl
theorem gcd_ne {t b : Int} {g : Nat} (hb : b ≠ 0) (e : g = Nat.gcd t.natAbs b.natAbs) : 0 < g := by
  have eg : b.gcd t = g := by rw [e, Int.gcd, Nat.gcd_comm]
  exact eg ▸ gcd_pos hb
theorem gcd_le {t b : Int} {g : Nat} (hb : b ≠ 0) (e : g = Nat.gcd t.natAbs b.natAbs) : g ≤ b.natAbs := by
  rw [e]
  exact Nat.gcd_le_right _ (by omega)
/-! ### sizes -/
def Bd (n : Nat) (q : Rat) : Prop := q.num.natAbs < 2 ^ n ∧ q.den < 2 ^ n
theorem two_le {m n : Nat} (h : m ≤ n) : 2 ^ m ≤ 2 ^ n := Nat.pow_le_pow_right (by decide) h
theorem Bd.mono {m n : Nat} {q : Rat} (h : Bd m q) (l : m ≤ n) : Bd n q := ⟨Nat.lt_of_lt_of_le h.1 (two_le l), Nat.lt_of_lt_of_le h.2 (two_le l)⟩
theorem den_ne (q : Rat) : (q.den : Int) ≠ 0 := by have := q.den_pos; omega
theorem den_pos' (q : Rat) : 0 < (q.den : Int) := by have := q.den_pos; omega
theorem Bd.mk' {n : Nat} {t b : Int} (hb : b ≠ 0) (h1 : t.natAbs < 2 ^ n) (h2 : b.natAbs < 2 ^ n) : Bd n (Rat.divInt t b) := by
  refine ⟨?_, ?_⟩
  · rw [Rat.num_divInt]
    refine Nat.lt_of_le_of_lt ?_ h1
    have hg : 0 < b.gcd t := gcd_pos hb
    have hd : ((b.gcd t : Nat) : Int) ∣ b.sign * t := Int.dvd_mul_of_dvd_right (Int.gcd_dvd_right ..)
    obtain ⟨k, hk⟩ := hd
    rw [ediv_dvd (k := k) (by omega) hk]
    have h3 : (b.sign * t).natAbs = t.natAbs := by
      rw [Int.natAbs_mul, Int.natAbs_sign_of_ne_zero hb, Nat.one_mul]
    have h4 : (b.sign * t).natAbs = b.gcd t * k.natAbs := by rw [hk, Int.natAbs_mul, Int.natAbs_natCast]
    rw [← h3, h4]
    exact Nat.le_mul_of_pos_left _ hg
  · rw [Rat.den_divInt, if_neg hb]
    exact Nat.lt_of_le_of_lt (Nat.div_le_self _ _) h2
theorem add_eq (p q : Rat) : Rat.divInt (p.num * q.den + q.num * p.den) (p.den * q.den) = p + q := by
  conv => rhs; rw [← Rat.num_divInt_den p, ← Rat.num_divInt_den q]
  rw [Rat.divInt_add_divInt _ _ (den_ne p) (den_ne q)]
theorem sub_eq (p q : Rat) : Rat.divInt (p.num * q.den - q.num * p.den) (p.den * q.den) = p - q := by
  conv => rhs; rw [← Rat.num_divInt_den p, ← Rat.num_divInt_den q]
  rw [Rat.divInt_sub_divInt _ _ (den_ne p) (den_ne q)]
theorem mul_eq (p q : Rat) : Rat.divInt (p.num * q.num) (p.den * q.den) = p * q := by
  conv => rhs; rw [← Rat.num_divInt_den p, ← Rat.num_divInt_den q]
  rw [Rat.divInt_mul_divInt]
theorem div_eq (p q : Rat) : Rat.divInt (p.num * q.den) (p.den * q.num) = p / q := by
  rw [Rat.div_def, Rat.inv_def]
  conv => rhs; rw [← Rat.num_divInt_den p]
  rw [Rat.divInt_mul_divInt]
theorem neg_eq (p : Rat) : Rat.divInt (-p.num) p.den = -p := by
  conv => rhs; rw [← Rat.num_divInt_den p]
  rw [Rat.neg_divInt]
theorem mul_lt {a b m n : Nat} (ha : a < 2 ^ m) (hb : b < 2 ^ n) : a * b < 2 ^ (m + n) := by
  rw [Nat.pow_add]
  exact Nat.mul_lt_mul'' ha hb
theorem imul_lt {a b : Int} {m n : Nat} (ha : a.natAbs < 2 ^ m) (hb : b.natAbs < 2 ^ n) : (a * b).natAbs < 2 ^ (m + n) := by
  rw [Int.natAbs_mul]
  exact mul_lt ha hb
theorem iadd_lt {a b : Int} {n : Nat} (ha : a.natAbs < 2 ^ n) (hb : b.natAbs < 2 ^ n) : (a + b).natAbs < 2 ^ (n + 1) := by
  have : (a + b).natAbs ≤ a.natAbs + b.natAbs := Int.natAbs_add_le a b
  rw [Nat.pow_succ]
  omega
theorem isub_lt {a b : Int} {n : Nat} (ha : a.natAbs < 2 ^ n) (hb : b.natAbs < 2 ^ n) : (a - b).natAbs < 2 ^ (n + 1) := by
  have : (a - b).natAbs ≤ a.natAbs + b.natAbs := by omega
  rw [Nat.pow_succ]
  omega
theorem up_lt {a m n : Nat} (h : a < 2 ^ m) (l : m ≤ n) : a < 2 ^ n := Nat.lt_of_lt_of_le h (two_le l)
theorem Bd.den' {n : Nat} {q : Rat} (h : Bd n q) : ((q.den : Int)).natAbs < 2 ^ n := by rw [Int.natAbs_natCast]; exact h.2
theorem Bd.add {m n : Nat} {p q : Rat} (h : Bd m p) (k : Bd n q) : Bd (m + n + 1) (p + q) := by
  rw [← add_eq]
  refine Bd.mk' (Int.mul_ne_zero (den_ne p) (den_ne q)) (iadd_lt (imul_lt h.1 k.den') (up_lt (imul_lt k.1 h.den') (by omega))) (up_lt (imul_lt h.den' k.den') (by omega))
theorem Bd.sub {m n : Nat} {p q : Rat} (h : Bd m p) (k : Bd n q) : Bd (m + n + 1) (p - q) := by
  rw [← sub_eq]
  refine Bd.mk' (Int.mul_ne_zero (den_ne p) (den_ne q)) (isub_lt (imul_lt h.1 k.den') (up_lt (imul_lt k.1 h.den') (by omega))) (up_lt (imul_lt h.den' k.den') (by omega))
theorem Bd.mul {m n : Nat} {p q : Rat} (h : Bd m p) (k : Bd n q) : Bd (m + n) (p * q) := by
  rw [← mul_eq]
  exact Bd.mk' (Int.mul_ne_zero (den_ne p) (den_ne q)) (imul_lt h.1 k.1) (imul_lt h.den' k.den')
theorem num_ne {q : Rat} (h : q ≠ 0) : q.num ≠ 0 := fun e => h (Rat.num_eq_zero.mp e)
theorem Bd.div {m n : Nat} {p q : Rat} (h : Bd m p) (k : Bd n q) (hq : q ≠ 0) : Bd (m + n) (p / q) := by
  rw [← div_eq]
  exact Bd.mk' (Int.mul_ne_zero (den_ne p) (num_ne hq)) (imul_lt h.1 k.den') (imul_lt h.den' k.1)
theorem Bd.neg {m : Nat} {p : Rat} (h : Bd m p) : Bd m (-p) := by
  refine ⟨?_, ?_⟩
  · rw [show (-p).num = -p.num from rfl, Int.natAbs_neg]; exact h.1
  · rw [show (-p).den = p.den from rfl]; exact h.2
theorem log2_lt {a n : Nat} (h0 : 0 < n) (h : a < 2 ^ n) : a.log2 < n := by
  by_cases ha : a = 0
  · subst ha; rw [Nat.log2_zero]; exact h0
  · exact (Nat.log2_lt ha).mpr h
/-- equal fractions: the same above and below -/
theorem eq_iff (p q : Rat) : p = q ↔ p.num = q.num ∧ p.den = q.den := ⟨fun e => by rw [e]; exact ⟨rfl, rfl⟩, fun ⟨a, b⟩ => Rat.ext a b⟩
end WM
namespace WO
open PySem PySem.Spec PyProof.Rows L2
open Sem (wp)
/-! ### a type's call, for one program -/
section
variable {prog : Program} {w : World} {A : Around} {E : Value → Shared → Prop} {s : Shared}
theorem typeCall_in {T newId initId : String} {Bn Bi : Builtin} {args : List Value} {S : PySem.Spec} {Q Q₁ : Value → Shared → Prop} (ft : TypeCalled T newId initId)
    (hct : checkTypeCall T ⟨args, []⟩ = pure ()) (hcn : checkBuiltinCall newId ⟨.type T :: args, []⟩ = pure ())
    (entryN : entryFor table newId = some Bn) (entryI : entryFor table initId = some Bi) (g : MeetsIn prog w (Bn ⟨.type T :: args, []⟩) S)
    (h : S A.in1 (wants Q₁ E) s)
    (hnext : ∀ obj s₁, Q₁ obj s₁ → s₁.TypeIs obj T ∧ argsOk initId ⟨obj :: args, []⟩ ∧ ∃ Si, Meets (Bi ⟨obj :: args, []⟩) Si ∧ Si A.in1 (wants (fun r s₂ => r = .none ∧ Q obj s₂) E) s₁) :
    wpAny (model prog w) A (call (.type T) args) Q E s := by
  obtain ⟨c, tl, hmro⟩ := ft.mro
  have hmade := ft.made
  have hsub := ft.sub
  refine wpAny_call (codeAny_of_tree ?_)
  show wpAny _ _ (callAny (.type T) _) _ _ _
  refine wpAny_pure ⟨Code.quiet_builtin _ (by decide +kernel), codeAny_builtin F.entry_type_call ?_⟩
  rw [Around.under_plain (weight_type_call_type T args []) (units_type_call_type T args [])]
  have h1 := ft.notType
  have h2 := ft.canCreate
  repeat (any_goals (first | assumption | wp_step))
  refine codeAny_mono (codeAny_call_builtin ft.plain entryN (wpAny_of_eq hcn (g A.in1 _ s h))) fun r s₁ hr => ?_
  cases r with
  | error e => exact hr
  | ok fl =>
    cases fl with
    | ret obj =>
      obtain ⟨hT, hok, Si, gi, hsi⟩ := hnext _ _ hr
      have hli := ft.init.lookup
      have hbi := ft.init.bind obj
      repeat (any_goals (first | assumption | wp_step))
      refine codeAny_mono (codeAny_call_builtin ft.init.plain entryI (ft.init.check _ _ _ _ _ _ _ _ hT hok (gi prog w A.in1 _ s₁ hsi))) fun r₂ s₂ hr₂ => ?_
      cases r₂ with
      | error e => exact hr₂
      | ok fl₂ =>
        cases fl₂ with
        | ret r =>
          obtain ⟨rfl, hq⟩ := hr₂
          repeat (any_goals (first | assumption | wp_step))
        | _ => exact hr₂.elim
    | _ => exact hr.elim
theorem bool_in {x : Value} {Q : Value → Shared → Prop} (h : wpAny (model prog w) A.in1.in1 (truthy x) (fun b s' => Q (.bool b) s') E s) : wpAny (model prog w) A (call (.type "bool") [x]) Q E s := by
  refine typeCall_in (S := fun A R s => wpAny (model prog w) A.in1 (truthy x) (fun b s' => R (.ok (.ret (.bool b))) s') (fun e s' => R (.error e) s') s) F.called_bool (F.typeCall_bool_1 x) (F.newCall_bool_1 x) F.entry_bool_new F.entry_object_init
    (MeetsIn.of_wp fun A R s hs => ?_) (Q₁ := fun obj s₁ => s₁.TypeIs obj "bool" ∧ Q obj s₁) (wpAny_mono h (fun b s' q => ⟨rfl, q⟩) fun _ _ z => z) fun obj _ hq =>
    ⟨hq.1, F.args_object_init_2 obj x, _, object_init_meets F.called_bool.init.lookup F.called_bool.made F.newNe_bool, hq.1, rfl, hq.2⟩
  have f1 := F.conv_sub_bool
  obtain ⟨hp, g, d, tk, os⟩ := s
  repeat (any_goals (first | assumption | (with_reducible refine wpAny_bind (wpAny_mono hs (fun b s' q => ?_) fun _ _ z => z)) | wp_step))
  all_goals first | exact ⟨_, rfl, q⟩ | skip
end

def sB (b : Bool) : Str := if b = true then "True" else "False"
/-! ### abs(x), bool(x) by an own class's methods; repr of a bool; len of a set of tuples -/
section
variable {X : Cx} {CX : CXT} {n : Nat} {C g : Addr} {fd : FuncData} {ps : List Str} {sp : Sp} {E : XK}
def rOwnCall1 (C : Addr) (sp : Sp) (E : XK) : List V → Hp → VK → Prop := fun xs H Q => ∃ a dx fs, xs = [.ref a] ∧ H a = some (.ins C dx fs) ∧ sp [.ref a] H Q E
theorem call_ownAbs (F : FnOk X.prog X.w X.K X.mg X.base CX n g fd ps sp) (hb : Binds X.K fd ps []) (hs : PySem.W.findIn X.K (.ref C) "__abs__" = some (some (.ref g)))
    (hf : PySem.W.isFn X.K (.ref g) = true) (hr : Room (n + 1) X.A) (hx : Passes CX X E) : CallR X (.builtin "abs") (rOwnCall1 C sp E) := by
  intro pins s σ H xs us Q I r h
  obtain ⟨a, dx, fs, rfl, ha, q⟩ := h
  obtain rfl := Vals.ref1 r
  obtain ⟨mA, J, _⟩ := ins_get I.hok ha
  obtain ⟨od, J, _⟩ := J.look
  obtain ⟨m, hF⟩ := I.fr
  refine Calls.call_function_entry kind_abs plain_abs entry_abs (args_abs _) ?_
  unfold Builtin.«abs»
  refine wpAny_bind (m := oneArg "abs" _) (wpAny_pure ?_)
  have hl := F.len _ _ _ _ q
  refine wpAny_bind (m := callSpecial? (.ref a) (Str.ofString "__abs__")) (PySem.W.special_fn I.kIn J hs (beq_iff_eq.mp hf) ?_)
  refine wpAny_call (codeAny_mono (F.run X.A.in1 X.stack s H ⟨[.ref a], []⟩ [.ref a] [.ref a] _ E hr.in1 I.env0.in1 (by
    have := hb s [.ref a] I.kIn (by simpa using hl)
    simpa using this) (.cons rfl .nil) q) fun r s' hq => ?_)
  cases r with
  | error e => exact hx pins σ H s e s' I hq
  | ok fl =>
    cases fl with
    | ret u => exact wpAny_pure ⟨_, rfl, I.after hq⟩
    | next => exact False.elim hq
    | brk => exact False.elim hq
    | cont => exact False.elim hq
/-- bool(x) -/
def rOwnBool (C : Addr) (sp : Sp) (E : XK) : List V → Hp → VK → Prop := fun xs H Q => ∃ a dx fs, xs = [.ref a] ∧ H a = some (.ins C dx fs) ∧ sp [.ref a] H (fun z H' => ∃ r, z = .bl r ∧ Q (.bl r) H') E
theorem call_ownBool (F : FnOk X.prog X.w X.K X.mg X.base CX n g fd ps sp) (hb : Binds X.K fd ps []) (hs : PySem.W.findIn X.K (.ref C) "__bool__" = some (some (.ref g)))
    (hf : PySem.W.isFn X.K (.ref g) = true) (hr : Room (n + 2) X.A) (hx : Passes CX X E) : CallR X (.type "bool") (rOwnBool C sp E) := by
  intro pins s σ H xs us Q I r h
  obtain ⟨a, dx, fs, rfl, ha, q⟩ := h
  obtain rfl := Vals.ref1 r
  obtain ⟨mA, J, _⟩ := ins_get I.hok ha
  obtain ⟨od, J, _⟩ := J.look
  obtain ⟨m, hF⟩ := I.fr
  refine bool_in (PySem.W.truthy_K hF I.ok.mod.kin J hs hf ?_)
  have hl := F.len _ _ _ _ q
  have hr2 : Room n X.A.in1.in1 := Room.in1 (Room.in1 hr)
  refine wpAny_call (codeAny_mono (F.run X.A.in1.in1 X.stack s H ⟨[.ref a], []⟩ [.ref a] [.ref a] _ E hr2 I.env0.in1.in1 (by
    have := hb s [.ref a] I.kIn (by simpa using hl)
    simpa using this) (.cons rfl .nil) q) fun r s' hq => ?_)
  cases r with
  | error e => exact hx pins σ H s e s' I hq
  | ok fl =>
    cases fl with
    | ret u =>
      obtain ⟨z, H', I', rz, r, ez, q'⟩ := I.after hq
      subst ez
      cases (show u = Value.bool r from rz)
      exact ⟨.bl r, H', I', rfl, q'⟩
    | next => exact False.elim hq
    | brk => exact False.elim hq
    | cont => exact False.elim hq
/-- repr(a bool) -/
theorem call_repr_bl : CallR X (.builtin "repr") (fun xs H Q => ∃ b, xs = [.bl b] ∧ Q (.str (sB b)) H) := by
  intro pins s σ H xs us Q I r h
  obtain ⟨b, rfl, q⟩ := h
  obtain ⟨u, rfl, ru⟩ := vals1 r
  cases (show u = Value.bool b from ru)
  exact PySem.P.repr_of_bool ⟨.str _, H, I.tok _, ⟨_, by cases b <;> rfl⟩, q⟩
/-- len(a set of tuples of ints) -/
def rLenT (K : PySem.W.Frag) (P : Program) (w : World) : List V → Hp → VK → Prop := fun vs H Q => ∃ (a : Addr) (L : List (Addr × List Int)), vs = [V.ref a] ∧ H a = some (SetTO P w a L) ∧ (∀ p ∈ L, SqT K H p.1 (p.2.map V.int)) ∧ ((L.map (·.2)).Nodup → Q (.int L.length) H)
theorem cr_lenT : CallR X (.builtin "len") (rLenT X.K X.prog X.w) := by
  intro pins s σ H vs us Q I r h
  obtain ⟨a, L, rfl, ha, hk, q⟩ := h
  have R0 : SetT0 X.prog X.w s.heap a L := (I.hok a _ ha).1
  obtain ⟨es, ep, t, R⟩ := R0.full fun p hp => I.isT (hk p hp)
  rw [Vals.ref1 r]
  obtain ⟨o, ho, hex, hd⟩ := R.ob
  have hn := R.size
  have hf := R.few
  refine call_len_set ho hex hd R.fits (by omega) ⟨.int L.length, H, I.tok _, ⟨_, by rw [hn]⟩, q R.nd⟩
end
end WO
namespace WX
open PySem PySem.Spec PyProof.Rows L2

/-! ### class E(..ValueError): def __init__(self, v): super().__init__(); self.fld = v -/
def spExI (C : Addr) (fld : Str) : Sp := fun vs H Q _ => ∃ (a : Addr) (y : V), vs = [.ref a, y] ∧ H a = some (exo a C none) ∧ ∀ dx, H dx = none → dx ≠ a → Q .non (upd (upd H dx (exd dx [(fld, y)])) a (exo a C (some dx)))
abbrev scI (vn : Str) : Scope := { kind := .function, names := [("self", .local), (vn, .local)], isGenerator := false, isCoroutine := false }
theorem fs_scI {vn : Str} (h : ("self" : Str) ≠ vn) : FnScope ["self", vn] ["self", vn] (scI vn) := by
  have e : (("self" : Str) == vn) = false := beq_eq_false_iff_ne.mpr h
  have e2 : (vn == ("self" : Str)) = false := beq_eq_false_iff_ne.mpr (Ne.symm h)
  refine ⟨rfl, rfl, rfl, by simp [h], rfl, fun x hx => ?_, fun y hy => ?_⟩
  · rcases List.mem_cons.mp hx with rfl | hx
    · exact .inl (by simp [List.lookup])
    · rw [List.mem_singleton.mp hx]
      exact .inl (by simp [List.lookup, e2])
  · rcases List.mem_cons.mp hy with rfl | hy
    · exact fun z => nomatch z
    · rw [List.mem_singleton.mp hy]
      exact fun z => nomatch z
theorem binds_fn {vn : Str} (h : ("self" : Str) ≠ vn) {q : Str} {L f : Addr} {cd a u : Value} : (fun x => (List.zip [("self" : Str), vn] [a, u]).reverse.lookup x) = bindL (envOfC q (scI vn) L f cd).kindOf (List.zip [("self" : Str), vn] [a, u]) fun _ => none := by
  have e2 : (vn == ("self" : Str)) = false := beq_eq_false_iff_ne.mpr (Ne.symm h)
  have k1 : (envOfC q (scI vn) L f cd).kindOf "self" = some .local := by
    show List.lookup ("self" : Str) ([("self", .local), (vn, .local)] : List (Str × NameKind)) = some .local
    simp [List.lookup]
  have k2 : (envOfC q (scI vn) L f cd).kindOf vn = some .local := by
    show List.lookup vn ([("self", .local), (vn, .local)] : List (Str × NameKind)) = some .local
    simp [List.lookup, e2]
  funext y
  show List.lookup y ([(vn, u), ("self", a)] : List (Str × Value)) = _
  simp only [List.zip_cons_cons, List.zip_nil_right, bindL, k1, k2, if_true]
  by_cases h1 : y = vn
  · subst h1
    simp [List.lookup]
  · by_cases h2 : y = "self"
    · subst h2
      have e3 : (("self" : Str) == vn) = false := beq_eq_false_iff_ne.mpr h
      simp [List.lookup, e3, h]
    · have e3 : (y == vn) = false := beq_eq_false_iff_ne.mpr h1
      have e4 : (y == ("self" : Str)) = false := beq_eq_false_iff_ne.mpr h2
      simp [List.lookup, e3, e4, h1, h2]
section
variable {P : Program} {w : World} {K : PySem.W.Frag} {mg : Str → Option Value} {base : Heap}
theorem ok_superInit {nm qual vn fld : Str} {pr : Arguments} {sc : Scope} {dV kV doc pm ct oc ccl cl : Value} {an od cdd cld : Option Addr} {osl ccs csl : Array (Option Value)} {cvs : Array Value} {f cc cda C : Addr} {ar : Arg} {file : Str} {tf : Tok} {p0 p1 p2 p3 p4 p5 p6 p7 p8 : Pos}
    (lk : K.lookup f = some ⟨oc, od, .func (PySem.W.ksFn nm qual pr [.Expr (.Call (.Attribute (.Call (.Name "super" p0) [] [] p1) "__init__" p2) [] [] p3) p4, .Assign [.Attribute (.Name "self" p5) fld p6] (.Name vn p7) p8] sc dV kV doc pm an (.ref cda) ct cc), osl⟩)
    (hcd : PySem.W.codeIn K (.ref cda) qual = true) (hcode : K.lookup cda = some ⟨ccl, cdd, .fields cvs, ccs⟩) (hvs : cvs[2]? = some (.str file tf)) (hfile : ((P.main.file : Str) == file) = true)
    (hcell : K.lookup cc = some ⟨cl, cld, .cell (some (.ref C)), csl⟩) (T : OexC K C) (hsub : PySem.W.mroIn K C (.ref C) = some true) (hB : PySem.W.subIn K (.ref C) (.type "ValueError") = some true)
    (hsi : PySem.W.ks_superIn K C C "__init__" = some (some (.builtin "ValueError.__init__"))) (hany : PySem.W.nsIn K PySem.cStatics "thirdparty.any" = some none) (hno : PySem.W.findIn K (.ref C) fld = some none)
    (hsup : mg "super" = none) (htop : (P.main.scope.names.lookup ("super" : Str)).isSome = false) (hne : ("self" : Str) ≠ vn)
    (har : (pr.posonlyargs ++ pr.args).head? = some ar) (hself : ar.arg = "self")
    (k1 : sc.names.lookup ("super" : Str) = some .globalImplicit) (k2 : sc.names.lookup ("__class__" : Str) = some .free) (k3 : sc.names.lookup ("self" : Str) = some .local) (k4 : sc.names.lookup vn = some .local)
    (k5 : ∀ x ∈ sc.names, x.2 ≠ .cell) (k6 : sc.kind = .function) (k7 : sc.isCoroutine = false) (k8 : sc.isGenerator = false) (hdv : (vn == ("__debug__" : Str)) = false) {pl : Sem Bool}
    (he : ∀ env : Env, eval (.Call (.Attribute (.Call (.Name "super" p0) [] [] p1) "__init__" p2) [] [] p3) env = (do
      let ov ← attributeBase (.Call (.Name "super" p0) [] [] p1) "__init__" env (eval (.Call (.Name "super" p0) [] [] p1) env)
      standAt p2.atName
      let (f, first) ← holding [ov] (getMethod ov "__init__" pl)
      callWith p3 f first (backTo p3 (starEach [] env)) []))
    (hi : ∀ L, interactive (PySem.W.ksEnv qual sc L f (.ref cda) cc) = false) (hs0 : ∀ env : Env, swapsWith (.Call (.Attribute (.Call (.Name "super" p0) [] [] p1) "__init__" p2) [] [] p3) none p4.line env = pure false)
    (hs1 : ∀ env : Env, swapsWith (.Name vn p7) (some (.Attribute (.Name "self" p5) fld p6)) p8.line env = pure false) :
    FnOk P w K mg base CX0 1 f (PySem.W.ksFn nm qual pr [.Expr (.Call (.Attribute (.Call (.Name "super" p0) [] [] p1) "__init__" p2) [] [] p3) p4, .Assign [.Attribute (.Name "self" p5) fld p6] (.Name vn p7) p8] sc dV kV doc pm an (.ref cda) ct cc) ["self", vn] (spExI C fld) := by
  refine ⟨fun vs H Q E h => ?_, fun A outer s H args us vs Q E hr e0 hb r hsp => ?_⟩
  · obtain ⟨a, y, rfl, _⟩ := h
    rfl
  obtain ⟨a, y, rfl, ea, k⟩ := hsp
  obtain ⟨u, rfl, ru⟩ : ∃ u, us = [.ref a, u] ∧ RelV y u := by
    cases r with
    | cons r1 r2 =>
      cases r2 with
      | cons r3 r4 =>
        cases r4
        cases (show _ = Value.ref a from r1)
        exact ⟨_, rfl, r3⟩
  have hin : ∀ b o, base.get? b = some o → s.heap.get? b = some o := fun b o e => (e0.bs b o e).1
  have KX : K.In s.heap := e0.mod.kin.keeps hin
  have hloc : ∀ z ∈ List.zip [("self" : Str), vn] [Value.ref a, u], sc.names.lookup z.1 = some .local := fun z hz => by
    rcases List.mem_cons.mp (show z ∈ ([("self", Value.ref a), (vn, u)] : List (Str × Value)) from hz) with rfl | hz
    · exact k3
    · rw [List.mem_singleton.mp hz]
      exact k4
  refine PySem.ks_codeAny_call_defAt (fd := PySem.W.ksFn nm qual pr [.Expr (.Call (.Attribute (.Call (.Name "super" p0) [] [] p1) "__init__" p2) [] [] p3) p4, .Assign [.Attribute (.Name "self" p5) fld p6] (.Name vn p7) p8] sc dV kV doc pm an (.ref cda) ct cc) hr.depth (KX _ _ lk) rfl (e0.mod.nolimit.keeps hin) (PySem.W.codeRec_of KX hcd) rfl hb k5 hloc (fun h1 hns hk => ?_) k7 k8 k6
  obtain ⟨hp, g, d, t, os⟩ := s
  have I1 : Inv (cxOf CX0 P w K mg base ["self", vn] qual (scI vn) f (.ref cda) A outer ⟨hp, g, d, t, os⟩ H E) [] (start ["self", vn] [.ref a, y]) H ⟨h1, g, d, t + 2, os⟩ :=
    inv_start (us := [.ref a, u]) (fs_scI hne) hr.hd e0 rfl r ⟨⟨⟨_, _, rfl⟩, binds_fn hne ▸ hns, hk, Nat.le_refl _⟩, fun n c e => (by cases e), List.Pairwise.nil, fun n c e => (by cases e)⟩
  have hmg := e0.mod.glob.keeps hin
  obtain ⟨mb, hmb, hmb2⟩ := e0.mod.blt
  have hmb := hmb.keeps hin
  have up : ∀ {o : Obj} {b : Addr}, hp.get? b = some o → h1.get? b = some o := fun {o b} e => hk b o e
  obtain ⟨nm', q', N', bs', bm', sn', sub', ab', col', dd', c0, c1, c2, c3, c5, hC, hbm⟩ := T.cls
  obtain ⟨t1, hea⟩ := exo_at e0.hok ea
  have hat : h1.get? a = some (PySem.HandSPX.excO C t1) := up hea
  have hCat := I1.kIn _ _ hC
  have hcl : PySem.W.clsIn K C = some { name := nm', bases := bs', mro := .ref C :: bm', ns := N', qualname := q', hasDict := true, slotNames := sn', subclasses := sub', abstract := ab', collection := col', hasDel := false } := by unfold PySem.W.clsIn; rw [hC] <;> rfl
  have hIa : PySem.W.InstAt h1 a (PySem.HandSPX.excO C t1) C none := ⟨hat, rfl, rfl, trivial⟩
  refine PySem.ks_wpAt_execs_cons (PySem.ks_wpAt_Expr_any (PySem.ks_wpAt_MethodCall (pl := pl) (PySem.ks_wpAt_super_base (fd := PySem.W.ksFn nm qual pr [.Expr (.Call (.Attribute (.Call (.Name "super" p0) [] [] p1) "__init__" p2) [] [] p3) p4, .Assign [.Attribute (.Name "self" p5) fld p6] (.Name vn p7) p8] sc dV kV doc pm an (.ref cda) ct cc) k1 k2 (by decide) rfl (I1.kIn _ _ lk) rfl har rfl (I1.kIn _ _ hcode) rfl hvs hfile htop ?_) (he _)) (hi _) (hs0 _))
  refine PySem.W.ks_loadName_global k6 k1 (Calls.loadGlobal_builtin (hmg.keeps hk) hsup (hmb.keeps hk) ((hmb2 _ (by decide +kernel)).trans (by decide +kernel)) ⟨rfl, ?_⟩)
  refine wpAny_loadName_free k6 k2 rfl ⟨_, I1.kIn _ _ hcell, rfl⟩ ?_
  have l1 : (fun x => (List.zip [("self" : Str), vn] [Value.ref a, u]).reverse.lookup x) "self" = some (.ref a) := by
    have e3 : (("self" : Str) == vn) = false := beq_eq_false_iff_ne.mpr hne
    show List.lookup ("self" : Str) ([(vn, u), ("self", .ref a)] : List (Str × Value)) = _
    simp [List.lookup, e3]
  have l2 : (fun x => (List.zip [("self" : Str), vn] [Value.ref a, u]).reverse.lookup x) vn = some u := by
    show List.lookup vn ([(vn, u), ("self", .ref a)] : List (Str × Value)) = _
    simp [List.lookup]
  refine wpAny_loadName_local k6 (by rw [hself]; exact k3) hns (v := .ref a) (by rw [hself]; exact l1) ?_
  refine PySem.ks_wpAny_isType_cls hCat rfl ⟨rfl, ?_⟩
  refine PySem.ks_wpAny_call_super hCat rfl hat rfl (fun c z => nomatch z) (PySem.W.looks_mroIn I1.kIn hsub) (fun h2 e2 kk2 => ?_)
  have I2 : Inv _ [] _ H ⟨h2, g, d, t + 2, os⟩ := I1.kept kk2
  have hat2 := kk2 _ _ hat
  have hIa2 : PySem.W.InstAt h2 a (PySem.HandSPX.excO C t1) C none := ⟨hat2, rfl, rfl, trivial⟩
  unfold PySem.W.ks_superIn at hsi
  rw [hcl] at hsi
  refine PySem.W.kxs_getMethod PySem.W.kxs_ValueError e2 (PySem.W.looks_opaque I2.kIn hany) (l₀ := .ref C :: bm') ?_ rfl I2.kIn hsi (hIa2.type.andThen (PySem.W.looks_subIn I2.kIn hB)) (PySem.W.ks_ne I2.kIn hIa2 hcl) (by decide) ?_
  · exact fun A Q E s k q => wpAny_bind ((PySem.W.looks_clsIn I2.kIn hcl) A _ E s k (wpAny_pure q))
  have hmw : (h2.push (PySem.W.kxs_mw "ValueError.__init__" a)).get? h2.objs.size = some (PySem.W.kxs_mw "ValueError.__init__" a) := Heap.get?_push_size _ rfl
  refine PySem.W.kxs_callWith (i := "ValueError.__init__") (x := a) rfl (evalArgs_empty ⟨hmw, ?_⟩)
  have kk3 : ∀ b o, h2.get? b = some o → (h2.push (PySem.W.kxs_mw "ValueError.__init__" a)).get? b = some o := fun b o e => Heap.get?_push_of_some _ e
  generalize hq3 : h2.push (PySem.W.kxs_mw "ValueError.__init__" a) = h3 at *
  have hat3 := kk3 _ _ hat2
  have I3 : Inv (cxOf CX0 P w K mg base ["self", vn] qual (scI vn) f (.ref cda) A outer ⟨hp, g, d, t, os⟩ H E) [] (start ["self", vn] [.ref a, y]) H ⟨h3, g, d, t + 2 + 1, os⟩ := I2.kept kk3
  -- the wrapper is called: the built-in __init__
  refine wpAny_call (codeAny_of_tree (show wpAny _ _ (callAny (.ref h2.objs.size) ⟨[], []⟩) _ _ _ from ?_))
  simp only [callAny]
  refine wpAny_bind (wpAny_load hmw ?_)
  have t1' : (Value.type "method-wrapper" == Value.type "method" || Value.type "method-wrapper" == Value.type "builtin_function_or_method" || Value.type "method-wrapper" == Value.type "method-wrapper") = true := by decide
  simp only [PySem.W.kxs_mw, t1', if_true]
  refine PySem.W.KFB.if_so (by decide) (wpAny_bind (PySem.W.check_bound_init F.excBase_ValueError.toExcCallFacts (I3.kIn _ _ hC) hat3 rfl (wpAny_bind (wpAny_pure (wpAny_pure ?_)))))
  refine ⟨plainId_quiet F.excBase_ValueError.init.plain _, codeAny_builtin F.excBase_ValueError.initEntry ?_⟩
  refine PySem.W.exc_init_tree (cls := .ref C) (t0 := t1) (dv := none) (c2 := .none) (c3 := .none) (b4 := .bool false) hat3 (by decide) fun h4 kk4 hat4 _ => ?_
  have J := I3.write (t' := t + 2 + 1) (x := a) (e := a) (o := exo a C none) (by rw [ea]; exact True.intro) (.inl rfl) kk4 ⟨_, hat4⟩ (exo_ok hat4)
  have eu : upd H a (exo a C none) = H := by
    funext b
    by_cases eb : b = a
    · rw [eb, upd_same, ea]
    · rw [upd_ne eb]
  rw [eu] at J
  have hLa : hp.objs.size ≠ a := Nat.ne_of_gt (Heap.lt_size hea)
  have hns4 : h4.Ns hp.objs.size (fun x => (List.zip [("self" : Str), vn] [Value.ref a, u]).reverse.lookup x) := by
    obtain ⟨o, es, ep, e, dd, rr⟩ := hns
    exact ⟨o, es, ep, kk4 _ _ hLa (kk3 _ _ (kk2 _ _ e)), dd, rr⟩
  refine PySem.ks_wpAt_execs_cons (wpAt_of_wpAny (plainObj_wpAny_Assign_Attribute (wpAny_Name (wpAny_loadName_local k6 k4 hns4 l2 ?_) hdv) (hs1 _)))
  refine wpAny_Name (wpAny_loadName_local k6 k3 hns4 l1 ?_) (by decide)
  refine ost_new T J ea hno ru fun dx s2 nd ne J2 => ?_
  refine wpAt_of_wpAny (wpAny_execs_nil ?_)
  exact ⟨.non, _, J2.os, J2.bare, J2.base, J2.hok, rfl, k dx nd ne⟩
end
end WX
namespace WE
open PySem PySem.Spec PyProof.Rows L2

/-! ### a caught exception that is kept: try: body, except X as n: m = n -/
/-- at a: an exception of the class cls, its dict at d -/
def Cau (cls : Value) (d : Option Addr) (a : Addr) : HO := .ext fun h => ∃ (oe : Obj) (vs : Array Value), h.get? a = some oe ∧ Zc cls d oe ∧ oe.data = .fields vs
theorem cau_ok {P : Program} {w : World} {H : Hp} {h : Heap} {a : Addr} {cls : Value} {d : Option Addr} {oe : Obj} (e : h.get? a = some oe) (z : Zc cls d oe) (hd : ∃ vs, oe.data = .fields vs) : ObjOk P w H h a (Cau cls d a) := by
  obtain ⟨vs, hd⟩ := hd
  exact ⟨⟨oe, vs, e, z, hd⟩, ⟨oe, e⟩, fun _ _ ⟨o, v, q, r⟩ k => ⟨o, v, k o q, r⟩⟩
theorem cau_at {P : Program} {w : World} {H : Hp} {h : Heap} {a : Addr} {cls : Value} {d : Option Addr} (hok : HOk P w H h) (he : H a = some (Cau cls d a)) : ∃ (oe : Obj) (vs : Array Value), h.get? a = some oe ∧ Zc cls d oe ∧ oe.data = .fields vs := by
  have x : ObjOk P w H h a (.ext fun h => ∃ (oe : Obj) (vs : Array Value), h.get? a = some oe ∧ Zc cls d oe ∧ oe.data = .fields vs) := hok a _ he
  exact x.1
section
variable {X : Cx} {pins : List (Addr × Obj)} {σ : L2.St} {H : Hp} {s : Shared}
/-- an object that was made behind the entry is tracked from here on -/
theorem track {a : Addr} {o : HO} (I : Inv X pins σ H s) (na : H a = none) (n0 : X.s_0.heap.get? a = none) (nL : a ≠ X.env.locals) (np : ∀ p ∈ X.pn ++ pins, p.1 ≠ a) (nc : ∀ v, ¬ s.heap.IsCell a v) (new : ObjOk X.prog X.w (upd H a o) s.heap a o) : Inv X pins σ (upd H a o) s := by
  have ne0 : ∀ {b : Addr} {u : Obj}, X.s_0.heap.get? b = some u → b ≠ a := fun {b u} e z => by
    rw [z, n0] at e
    cases e
  refine ⟨I.ok, I.os, I.bare, ⟨I.base.keep, I.base.slot, fun b u e n hx => ?_, I.base.there, fun b xs e => ?_, fun b u v e => ?_, fun b ps e => ?_⟩, I.loc, I.cell, ?_, fun x c e => ?_, fun p hp => ?_, I.hok.laidN (fun _ _ e => e) na new, I.len⟩
  · rw [upd_ne (ne0 e)]
    exact I.base.free b u e n hx
  · have q := I.base.tups b xs e
    rw [upd_ne (ne_of_none q na)]
    exact q
  · have q := I.base.frzs b u v e
    rw [upd_ne (ne_of_none q na)]
    exact q
  · obtain ⟨m, q⟩ := I.base.tbls b ps e
    exact ⟨m, by rw [upd_ne (ne_of_none q na)]; exact q⟩
  · rw [upd_ne (Ne.symm nL)]
    exact I.free
  · have hc : c ≠ a := fun z => by
      obtain ⟨v, q⟩ := I.cell x c e
      rw [z] at q
      exact nc v q
    rw [upd_ne hc]
    exact I.freeC x c e
  · obtain ⟨e, n, r⟩ := I.pin p hp
    exact ⟨e, by rw [upd_ne (np p hp)]; exact n, r⟩
end
/-- what the clause wishes: slot i is n's -/
def wKeep (K : PySem.W.Frag) (c : Value) (i : Nat) (ts : TS) (Wout : WX) (D : Ends) : WX := fun cls d σ H =>
  ∃ b, PySem.W.exmOne K cls c = some b ∧
    (b = true → ∀ a, H a = none → ts { nx := fun σ1 H1 => D.nx (σ1.set i none) (upd H1 a (Cau cls d a)), rt := fun _ _ => False, bk := fun _ _ => False, ct := fun _ _ => False } (σ.set i (some (.ref a))) H) ∧ (b = false → Wout cls d σ H)
section
variable {X : Cx} {x n : Str} {c : Value} {i : Nat} {body suite : List Stmt} {b₀ : Stmt} {np pos pos' : Pos} {tb : WX → TS} {ts : TS} {Wout : WX}
theorem ps_try_keep (hs : X.stack = X.env :: X.outer) (hf : X.env.frame = some X.env.locals) (hex : X.ex = []) (hN : X.N.Nodup) (hi : X.N[i]? = some n) (hln : X.env.kindOf n = some .local) (hc : Names X x c) (tk : Takes X Wout)
    (hb : ∀ (W : WX) (pn : List (Addr × Obj)) (xe : Value → Shared → Prop), Takes (X.tr pn xe) W → PassesOwn (model X.prog X.w) X.A X.env xe → PSs (X.tr pn xe) body (tb W))
    (hsu : ∀ (a : Addr) (oe : Obj) (pn : List (Addr × Obj)), PSs (X.suite a ((a, oe) :: pn)) (b₀ :: suite) ts) :
    PS X (.Try body [.ExceptHandler (some (.Name x np)) (some n) (b₀ :: suite) pos'] [] [] pos) (fun D σ H => tb (wKeep X.K c i ts Wout D) D σ H) := by
  refine ⟨fun pins s σ H D I h => ?_⟩
  have ok := I.ok
  have frA : X.A.frames = some (X.env :: X.outer) := by rw [ok.frames, hs]
  have lcl : Loc X.env.scope n := .inl hln
  refine wpAny_Try_except ?_
  refine wpAny_mono ((hb (wKeep X.K c i ts Wout D) (X.pn ++ pins) (fun er s₁ => wpAny (model X.prog X.w) X.A (noteFrame er X.env) (fun _ s₂ => wpAny (model X.prog X.w) X.A (setFlight er none) (fun _ s₃ =>
    wpAny (model X.prog X.w) X.A (handleBy er X.env [.ExceptHandler (some (.Name x np)) (some n) (b₀ :: suite) pos']) (SP X pins D) X.xe s₃) X.xe s₂) X.xe s₁) (fun u s2 air => ?_) PassesOwn.looking).run [] s σ H D (I.toTry _) h) (fun f s1 hsp => ?_) (fun e s1 he => he)
  · obtain ⟨a, B, sI, pins2, σ2, H2, cls, d, rfl, J0, nb, up, sky, na, os, ag, b, hb1, hyes, hno⟩ := air
    have J : Inv X pins σ2 H2 sI := J0.ofTry ok
    have sky2 : Sky B (X.env :: X.outer) a (Zc cls d) X.env.locals s2.heap := by rw [← hs]; exact sky
    show wpAny (model X.prog X.w) X.A (noteFrame (.ref a) X.env) _ _ _
    refine Sky.land Zc.steady frA hf sky2 fun h3 fl3 up3 => ?_
    have J3 : Inv X pins σ2 H2 { s2 with heap := h3 } := J.landed nb fl3.1 (up.trans up3) os ag
    obtain ⟨oe3, vs3, he3, hz3, hd3⟩ := fl3.there
    have frames_no : ∀ {h : Heap} {o : Obj} {vs : Array Value}, h.FunFrames B (X.env :: X.outer) → h.get? a = some o → o.data = .fields vs → a ∉ frs (X.env :: X.outer) := fun {h o vs} ff e dd hm => by
      obtain ⟨_, o', e', hnf⟩ := ff.mem hm
      rw [e] at e'
      cases e'
      exact hnf _ dd
    have nfr := frames_no fl3.2.2.1 he3 hd3
    have nL : a ≠ X.env.locals := fun z => nfr (List.mem_filterMap.mpr ⟨X.env, List.mem_cons_self, by rw [hf, z]⟩)
    have nF : a ∉ X.fs := fun hm => by
      obtain ⟨e, he, q⟩ := List.mem_filterMap.mp hm
      exact nfr (List.mem_filterMap.mpr ⟨e, List.mem_cons_of_mem _ he, q⟩)
    -- the exception is new
    have nI : sI.heap.get? a = none := by
      cases q : sI.heap.get? a with
      | none => rfl
      | some o =>
        have z := nb a o q (by rw [hs]; exact nfr)
        rw [fl3.2.1] at z
        cases z
    have n0 : X.s_0.heap.get? a = none := by
      cases q : X.s_0.heap.get? a with
      | none => rfl
      | some o =>
        obtain ⟨o', z⟩ := J.base.there a o q (by rw [hex]; exact List.not_mem_nil)
        rw [nI] at z
        cases z
    have npn : ∀ p ∈ X.pn ++ pins, p.1 ≠ a := fun p hp z => by
      have q := (J.pin p hp).1
      rw [z, nI] at q
      cases q
    have S3 := J3.suite he3 hd3 na nL nF
    refine wpAny_handleBy_cons (codeAny_handlers_test ?_) (by intro q; cases q)
    have LT : PySem.W.Looks (model X.prog X.w) h3 (typeOf (.ref a)) cls := fun A Q E s k q => wpAny_typeOf_ref (k _ _ he3) (by rw [hz3.1]; exact q)
    have LM := PySem.W.exm_one (M := model X.prog X.w) (J3.kIn) LT hb1
    have named : ∀ {Q : Value → Shared → Prop} {E : Value → Shared → Prop}, Q c { s2 with heap := h3 } → wpAny (model X.prog X.w) (X.A.mark (some (.ref a))) (eval (.Name x np) X.env) Q E { s2 with heap := h3 } := fun {Q E} q => by
      obtain ⟨hg, hdbg, hm | ⟨hm, hv, hnn⟩⟩ := hc
      · exact ld_glob (X := X.suite a ((a, oe3) :: (X.pn ++ pins))) S3 hg hm q hdbg
      · exact ld_blt (X := X.suite a ((a, oe3) :: (X.pn ++ pins))) S3 hg hm hv q hnn hdbg
    refine named (LM.here ?_)
    cases b with
    | true =>
      refine codeAny_handlers_suite_as ?_
      refine HandSPX.lands_againZ fl3 fun h4 fl4 up4 => ?_
      have J4 : Inv X pins σ2 H2 { s2 with heap := h4 } := J.landed nb fl4.1 ((up.trans up3).trans up4) os ag
      obtain ⟨oe4, vs4, he4, hz4, hd4⟩ := fl4.there
      have S4 := J4.suite he4 hd4 na nL nF
      refine store_ok (X := X.suite a ((a, oe4) :: (X.pn ++ pins))) (v := .ref a) S4 hN hi lcl rfl (fun s5 S5 => ?_) (.inr hln)
      refine wpAny_mono ((hsu a oe4 (X.pn ++ pins)).run [] s5 _ H2 _ S5 (hyes rfl a na)) (fun f s6 hsp => ?_) (fun _ _ z => False.elim z)
      cases f with
      | next =>
        obtain ⟨σ6, H6, S6, q6⟩ := hsp
        obtain ⟨e6, n6, _⟩ := S6.pin (a, oe4) (List.mem_append_left _ List.mem_cons_self)
        have T6 : Inv X pins σ6 (upd H6 a (Cau cls d a)) s6 := track (S6.unsuite ok) n6 n0 nL npn (fun v z => by
          obtain ⟨o, e, dd⟩ := z
          rw [show s6.heap.get? a = some oe4 from e6] at e
          cases e
          rw [hd4] at dd
          cases dd) (cau_ok e6 hz4 ⟨_, hd4⟩)
        exact gone_ok T6 hN hi hln fun s7 J7 => ⟨_, _, J7, q6⟩
      | brk => exact (hsp.choose_spec.choose_spec.2 : False).elim
      | cont => exact (hsp.choose_spec.choose_spec.2 : False).elim
      | ret u => exact (hsp.choose_spec.choose_spec.choose_spec.2.2 : False).elim
    | false =>
      show wpAny _ X.A (handleBy (.ref a) X.env []) _ _ _
      refine wpAny_handleBy_nil ?_
      obtain ⟨k1, k2, k3, oe, vs, Tr, oT, tss, he, hz, hd, h1, hr⟩ := id fl3
      unfold PySem.passOn
      refine wpAny_bind (wpAny_field he hd h1 ?_)
      rw [if_neg (show ¬ ((Value.ref Tr == Value.none) = true) from by simp)]
      have on_ : wpAny (model X.prog X.w) X.A (setFlight (.ref a) X.env.frame) (fun _ s4 => wpAny (model X.prog X.w) X.A (throw (.ref a) : Sem Flow) (SP X pins D) X.xe s4) X.xe { s2 with heap := h3 } := by
        rw [hf]
        refine HandSPX.setFlight_upZ fl3 fun h4 hh4 up4 => wpAny_throw (tk _ _ ?_)
        exact ⟨a, B, sI, pins, σ2, H2, cls, d, rfl, J, nb, (up.trans up3).trans up4, .inr (.inr (by rw [hs]; exact hh4)), na, os, ag, hno rfl⟩
      first
        | exact wpAny_bind (wpAny_pure (wpAny_bind on_))
        | exact wpAny_bind on_
  · cases f with
    | next =>
      obtain ⟨σ6, H6, S6, q6⟩ := hsp
      exact wpAny_execs_nil ⟨σ6, H6, S6.ofTry ok, q6⟩
    | brk =>
      obtain ⟨σ6, H6, S6, q6⟩ := hsp
      exact ⟨σ6, H6, S6.ofTry ok, q6⟩
    | cont =>
      obtain ⟨σ6, H6, S6, q6⟩ := hsp
      exact ⟨σ6, H6, S6.ofTry ok, q6⟩
    | ret u =>
      obtain ⟨v6, σ6, H6, S6, r6, q6⟩ := hsp
      exact ⟨v6, σ6, H6, S6.ofTry ok, r6, q6⟩
end

/-! ### such an exception is looked at -/
/-- what the written part tells of its class -/
structure CauC (K : PySem.W.Frag) (C : Addr) : Prop where
  x : XfC K C
  cl : (PySem.W.clsIn K C).isSome = true
  ca : PySem.W.findIn K (.ref C) "__class__" = some (some (.builtin "object.__class__"))
  cn : PySem.W.specialIn K (.builtin "object.__class__") "__get__" = some (some (.builtin "getset_descriptor.__get__"))
  ct : PySem.W.takesIn K (.builtin "object.__class__") = some true
  cm : PySem.W.mroIn K C (.type "object") = some true
section
variable {X : Cx} {pins : List (Addr × Obj)} {σ : L2.St} {H : Hp} {s : Shared} {a C dd : Addr} {fs : List (Str × V)}
theorem cau_inst (I : Inv X pins σ H s) (e : H a = some (Cau (.ref C) (some dd) a)) (ed : H dd = some (.xd fs)) : ∃ (oe od : Obj) (mA : Str → Option Value), PySem.W.InstAt s.heap a oe C (some od) ∧ (∀ f, PySem.W.lookIn f od = some (mA f)) ∧ ∀ f, RelO (fs.lookup f) (mA f) := by
  obtain ⟨oe, vs, ha, hz, hd⟩ := cau_at I.hok e
  obtain ⟨mA, hns, hr⟩ := (show ObjOk X.prog X.w H s.heap dd (.xd fs) from I.hok dd _ ed)
  obtain ⟨od, ho, hl⟩ := lookIn_ns hns
  exact ⟨oe, od, mA, ⟨ha, hz.1, by unfold PySem.W.notCls; rw [hd] <;> rfl, by rw [hz.2]; exact ho⟩, hl, hr⟩
/-- isinstance(x, C) -/
def rIsC (K : PySem.W.Frag) : List V → Hp → VK → Prop := fun xs H Q => ∃ (a C dd : Addr) (fs : List (Str × V)) (c : V) (cv : Value) (b : Bool), xs = [.ref a, c] ∧ H a = some (Cau (.ref C) (some dd) a) ∧ H dd = some (.xd fs) ∧ CauC K C ∧ (∀ u, RelV c u → u = cv) ∧
  PySem.W.kitOne K (.ref C) cv = some b ∧ Q (.bl b) H
theorem call_isC : CallR X (.builtin "isinstance") (rIsC X.K) := by
  intro pins s σ H xs us Q I r h
  obtain ⟨a, C, dd, fs, c, cv, b, rfl, ea, ed, T, hc, hk, q⟩ := h
  obtain ⟨u, u2, rfl, r1, r2⟩ := vals2 r
  cases (show u = Value.ref a from r1)
  rw [hc u2 r2]
  obtain ⟨oe, od, mA, J, _, _⟩ := cau_inst I ea ed
  exact PySem.W.kia_one (PySem.W.kitx_exc T.cl T.x.ga T.x.gg T.x.exC T.ca T.cn T.ct T.cm) I.kIn J hk (fun z => nomatch z) fun tk => ⟨.bl b, H, I.tok _, rfl, q⟩
/-- isinstance(x, (C, D, ..)) -/
def rIsCT (K : PySem.W.Frag) : List V → Hp → VK → Prop := fun xs H Q => ∃ (a C dd t : Addr) (fs : List (Str × V)) (cs : List V) (cvs : List Value) (b : Bool), xs = [.ref a, .ref t] ∧ H a = some (Cau (.ref C) (some dd) a) ∧ H dd = some (.xd fs) ∧ CauC K C ∧ H t = some (.tup cs) ∧
  (∀ us, Vals cs us → us = cvs) ∧ PySem.W.kitAny K (.ref C) cvs = some b ∧ Q (.bl b) H
theorem call_isCT : CallR X (.builtin "isinstance") (rIsCT X.K) := by
  intro pins s σ H xs us Q I r h
  obtain ⟨a, C, dd, t, fs, cs, cvs, b, rfl, ea, ed, T, et, hc, hk, q⟩ := h
  obtain ⟨u, u2, rfl, r1, r2⟩ := vals2 r
  cases (show u = Value.ref a from r1)
  cases (show u2 = Value.ref t from r2)
  obtain ⟨oe, od, mA, J, _, _⟩ := cau_inst I ea ed
  obtain ⟨_, its, rv, o, ho, oc, n, od2⟩ := (show ObjOk X.prog X.w H s.heap t (.tup cs) from I.hok t _ et)
  obtain rfl := hc its rv
  obtain ⟨cl, dt, dat, sl⟩ := o
  cases oc
  cases od2
  exact PySem.W.kia_tup (PySem.W.kitx_exc T.cl T.x.ga T.x.gg T.x.exC T.ca T.cn T.ct T.cm) I.kIn J ho hk (fun z => nomatch z) fun tk => ⟨.bl b, H, I.tok _, rfl, q⟩
/-- x.f -/
def tCauF (K : PySem.W.Frag) (f : Str) (te : TE) : TE := fun σ H Q => te σ H fun x H1 => ∃ (a C dd : Addr) (fs : List (Str × V)) (v : V), x = .ref a ∧ H1 a = some (Cau (.ref C) (some dd) a) ∧ H1 dd = some (.xd fs) ∧ XfC K C ∧ PySem.W.findIn K (.ref C) f = some none ∧ fs.lookup f = some v ∧ Q v H1
theorem pe_cauf {e : Expr} {te : TE} {pos : Pos} {f : Str} (he : PE X e te) (hb : attributeBase e f X.env (eval e X.env) = eval e X.env := by rfl) : PE X (.Attribute e f pos) (tCauF X.K f te) := by
  refine ⟨fun pins s σ H Q I h => attr_of hb (thn (he.run pins s σ H _ I h) fun u s1 hh => ?_)⟩
  obtain ⟨x, H1, I1, rx, a, C, dd, fs, v, rfl, ea, ed, T, hno, l, q⟩ := hh
  cases (show u = Value.ref a from rx)
  obtain ⟨oe, od, mA, J, hl, hr⟩ := cau_inst I1 ea ed
  obtain ⟨u, hu, ru⟩ := RelO.some_of (v := v) (o := mA f) (by rw [← l]; exact hr f)
  exact HandSPX.exc_get I1.kIn J T.ga T.gg T.exC (PySem.W.findObj_own T.hdC hno rfl (by rw [hl, hu])) (handed_of ru) ⟨v, H1, I1.tok _, ru, q⟩
end
/-! ### o.m(e, ..) that may raise, in a try -/
def tMethS (C : Addr) (m : Str) (sp : Sp) (E : L2.St → XK) (ta : TE) (t : TA) : TE := fun σ H Q => ta σ H fun x H1 => ∃ a dx fs, x = .ref a ∧ H1 a = some (.ins C dx fs) ∧ fs.lookup m = none ∧ t σ H1 fun vs H2 => sp (x :: vs) H2 Q (E σ)
section
variable {X : Cx} {CX : CXT} {k : Nat} {f C : Addr} {fd : FuncData} {ps : List Str} {sp : Sp} {E : L2.St → XK} {m : Str} {pos apos : Pos} {e o : Expr} {es : List Expr} {ta : TE} {t : TA}
theorem pe_methS {pl : Sem Bool} (he : PE X o ta) (c : Cls X.K C) (hm : Meth X.K C m f) (F : FnOk X.prog X.w X.K X.mg X.base CX k f fd ps sp) (hr : Room k X.A) (hb : Binds X.K fd ps []) (hx : ∀ σ, PassesAt CX X σ (E σ)) (ha : PA X (e :: es) t)
    (hst : starEach (e :: es) X.env = (false, eval e X.env) :: starEach es X.env := by rfl) (hpl : (backTo pos (starEach es X.env)).any (·.1) = false := by rfl)
    (ht : eval (.Call (.Attribute o m apos) (e :: es) [] pos) X.env = (do
      let ov ← eval o X.env
      standAt apos.atName
      let (f, first) ← holding [ov] (getMethod ov m pl)
      callWith pos f first (backTo pos (starEach (e :: es) X.env)) (backToKw pos (keywordEach [] X.env))) := by rfl) :
    PE X (.Call (.Attribute o m apos) (e :: es) [] pos) (tMethS C m sp E ta t) := by
  refine ⟨fun pins s σ H Q I h => PySem.W.methodCall_KW (pl := pl) (thn (he.run pins s σ H _ I h) fun u s1 z => ?_) ht⟩
  obtain ⟨x, H1, I1, rx, a, dx, fs, rfl, ea, l, q⟩ := z
  cases (show u = Value.ref a from rx)
  refine getmeth_ok I1 ea c hm l ?_
  refine PySem.W.callWith_K (first := [.ref a]) (h₀ := X.base) I1.ok.mod.kin hm.kp (thn (ha.run pos pins s1 σ H1 _ I1 q) fun us s2 z => ?_) hst hpl
  obtain ⟨vs, H2, I2, r, q2⟩ := z
  exact ⟨I2.kIn, run_fnS (us := .ref a :: us) (vs := .ref a :: vs) F hr hb (hx σ) I2 (.cons rfl r) q2⟩
end
theorem exm_mk {K : PySem.W.Frag} {t : Value} {C : Addr} {v : Bool} (b : PySem.W.subIn K (.ref C) (.type "BaseException") = some true) (i : PySem.W.isClsIn K C = true) (ty : PySem.W.typeIn K (.ref C) = some (.type "type")) (s : PySem.W.subIn K t (.ref C) = some v) : PySem.W.exmOne K t (.ref C) = some v := by
  have i' : (PySem.W.clsIn K C).isSome = true := i
  unfold PySem.W.exmOne
  rw [b, if_pos (by decide)]
  show (if ((PySem.W.clsIn K C).isSome && PySem.W.typeIn K (.ref C) == some (.type "type")) = true then PySem.W.subIn K t (.ref C) else none) = some v
  rw [ty, i', if_pos (by simp)]
  exact s
end WE
namespace WT
open PySem PySem.Spec PyProof.Rows L2

/-! ### C(e, .., k = v, ..) in a try, its __init__ may raise -/
def tMakeKS (C : Addr) (n m : Nat) (sp : Sp) (gV : List V → List V → List V) (E : L2.St → XK) (t tk : TA) : TE := fun σ H Q => t σ H fun vs H1 => tk σ H1 fun zs H2 => vs.length = n ∧ zs.length = m ∧ ∀ x dx, H2 x = none → H2 dx = none → dx ≠ x →
  sp (gV (.ref x :: vs) zs) (upd (upd H2 dx (.own x)) x (.ins C dx [])) (fun v H3 => v = .non ∧ Q (.ref x) H3) (E σ)
section
variable {X : Cx} {CX : CXT} {k n : Nat} {f C : Addr} {fd : FuncData} {ps ks : List Str} {sp : Sp} {E : L2.St → XK} {x : Str} {p pos : Pos} {e : Expr} {es : List Expr} {kws : List Keyword} {t tk : TA} {g : List Value → List Value → List Value} {gV : List V → List V → List V}
theorem run_makeKS {pins : List (Addr × Obj)} {σ : L2.St} {H : Hp} {s : Shared} {Q : VK} {us ws : List Value} {vs zs : List V} (M : Mk X.K C f) (F : FnOk X.prog X.w X.K X.mg X.base CX k f fd ps sp) (hr : Room (k + 1) X.A) (hb : KBn X.K fd ps (n + 1) ks g gV) (hx : PassesAt CX X σ (E σ))
    (I : Inv X pins σ H s) (r : Vals vs us) (rz : Vals zs ws) (l1 : vs.length = n) (l2 : zs.length = ks.length)
    (h : ∀ x dx, H x = none → H dx = none → dx ≠ x → sp (gV (.ref x :: vs) zs) (upd (upd H dx (.own x)) x (.ins C dx [])) (fun v H2 => v = .non ∧ Q (.ref x) H2) (E σ)) :
    wpAny (model X.prog X.w) X.A (call (.ref C) us (ks.zip ws)) (EP X pins σ Q) X.xe s := by
  have hq := h (s.heap.objs.size + 1) s.heap.objs.size (I.hok.fresh (Nat.le_succ _)) (I.hok.fresh (Nat.le_refl _)) (Nat.ne_of_lt (Nat.lt_succ_self _))
  have I2 := Inv.made (C := C) I
  have r1 : Vals (V.ref (s.heap.objs.size + 1) :: vs) (Value.ref (s.heap.objs.size + 1) :: us) := .cons rfl r
  have r2 := hb.rel r1 rz
  have n1 : (Value.ref (s.heap.objs.size + 1) :: us).length = n + 1 := by
    rw [List.length_cons, ← r.length, l1]
  refine wpAny_call (make_map (f := f) I.kIn M.makes M.init (beq_iff_eq.mp M.fn) (codeAny_mono (F.run _ X.stack _ _ ⟨Value.ref (s.heap.objs.size + 1) :: us, ks.zip ws⟩ (g (Value.ref (s.heap.objs.size + 1) :: us) ws) _ _ (E σ) (hr.make C us (ks.zip ws))
    (I2.env0.make C us (ks.zip ws)) (hb.to _ (Value.ref (s.heap.objs.size + 1) :: us) ws I2.kIn n1 (rz.length.symm.trans l2)) r2 hq) fun r s' hq' => ?_))
  cases r with
  | error e => exact hx pins _ _ e s' I2 hq'
  | ok fl =>
    cases fl with
    | ret u =>
      obtain ⟨v, H', I3, rv, ev, q3⟩ := I2.after hq'
      subst ev
      exact ⟨rv, ⟨V.ref (s.heap.objs.size + 1), H', I3, rfl, q3⟩⟩
    | next => exact False.elim hq'
    | brk => exact False.elim hq'
    | cont => exact False.elim hq'
theorem pe_makeKS (M : Mk X.K C f) (F : FnOk X.prog X.w X.K X.mg X.base CX k f fd ps sp) (hr : Room (k + 1) X.A) (hg : Gl X x) (hm : X.mg x = some (.ref C)) (hb : KBn X.K fd ps (n + 1) ks g gV) (hx : ∀ σ, PassesAt CX X σ (E σ)) (ha : PA X (e :: es) t) (hkw : PK X kws tk)
    (hall : (backToKw pos (keywordEach kws X.env)).all (·.1.isSome) = true := by rfl) (hks : (backToKw pos (keywordEach kws X.env)).filterMap (·.1) = ks := by rfl) (hdb : (x == ("__debug__" : Str)) = false := by decide)
    (he : starEach (e :: es) X.env = (false, eval e X.env) :: starEach es X.env := by rfl) (hpl : ((backTo pos (starEach (e :: es) X.env)).any (·.1) || (backToKw pos (keywordEach kws X.env)).any (·.1.isNone)) = false := by rfl) :
    PE X (.Call (.Name x p) (e :: es) kws pos) (tMakeKS C n ks.length sp gV E t tk) := by
  refine ⟨fun pins s σ H Q I h => ?_⟩
  refine wpAny_Call_Name_kw (ld_glob I hg hm ?_ hdb)
  refine PySem.W.callWith_KW (h₀ := X.base) I.ok.mod.kin M.kp hall (thn (ha.run pos pins s σ H _ I h) fun us s1 ⟨vs, H1, I1, r, q⟩ => ?_) hpl he
  refine thn (hkw.run pos pins s1 σ H1 _ I1 q) fun ws s2 ⟨zs, H2, I2, rz, l1, l2, q2⟩ => ⟨I2.kIn, ?_⟩
  rw [hks]
  exact run_makeKS M F hr hb (hx σ) I2 r rz l1 l2 q2
theorem run_makeS {pins : List (Addr × Obj)} {σ : L2.St} {H : Hp} {s : Shared} {Q : VK} {us : List Value} {vs : List V} (M : Mk X.K C f) (F : FnOk X.prog X.w X.K X.mg X.base CX k f fd ps sp) (hr : Room (k + 1) X.A) {ds : List Value} {dvs : List V} (hb : Binds X.K fd ps ds) (hd : Vals dvs ds) (hx : PassesAt CX X σ (E σ))
    (I : Inv X pins σ H s) (r : Vals vs us)
    (h : ∀ x dx, H x = none → H dx = none → dx ≠ x → sp (.ref x :: vs ++ dvs) (upd (upd H dx (.own x)) x (.ins C dx [])) (fun v H2 => v = .non ∧ Q (.ref x) H2) (E σ)) :
    wpAny (model X.prog X.w) X.A (call (.ref C) us) (EP X pins σ Q) X.xe s := by
  have hq := h (s.heap.objs.size + 1) s.heap.objs.size (I.hok.fresh (Nat.le_succ _)) (I.hok.fresh (Nat.le_refl _)) (Nat.ne_of_lt (Nat.lt_succ_self _))
  have I2 := Inv.made (C := C) I
  have r1 : Vals (V.ref (s.heap.objs.size + 1) :: vs) (Value.ref (s.heap.objs.size + 1) :: us) := .cons rfl r
  have r2 : Vals (V.ref (s.heap.objs.size + 1) :: vs ++ dvs) (Value.ref (s.heap.objs.size + 1) :: us ++ ds) := r1.append hd
  have hl : (Value.ref (s.heap.objs.size + 1) :: us ++ ds).length = ps.length := by rw [← r2.length]; exact F.len _ _ _ _ hq
  refine wpAny_call (make_map (f := f) I.kIn M.makes M.init (beq_iff_eq.mp M.fn) (codeAny_mono (F.run _ X.stack _ _ ⟨Value.ref (s.heap.objs.size + 1) :: us, []⟩ (Value.ref (s.heap.objs.size + 1) :: us ++ ds) _ _ (E σ) (hr.make C us [])
    (I2.env0.make C us []) (hb _ (Value.ref (s.heap.objs.size + 1) :: us) I2.kIn hl) r2 hq) fun r s' hq' => ?_))
  cases r with
  | error e => exact hx pins _ _ e s' I2 hq'
  | ok fl =>
    cases fl with
    | ret u =>
      obtain ⟨v, H', I3, rv, ev, q3⟩ := I2.after hq'
      subst ev
      exact ⟨rv, ⟨V.ref (s.heap.objs.size + 1), H', I3, rfl, q3⟩⟩
    | next => exact False.elim hq'
    | brk => exact False.elim hq'
    | cont => exact False.elim hq'
def tMakeS (C : Addr) (sp : Sp) (dvs : List V) (E : L2.St → XK) (t : TA) : TE := fun σ H Q => t σ H fun vs H1 => ∀ x dx, H1 x = none → H1 dx = none → dx ≠ x →
  sp (.ref x :: vs ++ dvs) (upd (upd H1 dx (.own x)) x (.ins C dx [])) (fun v H3 => v = .non ∧ Q (.ref x) H3) (E σ)
theorem pe_makeS {ds : List Value} {dvs : List V} (M : Mk X.K C f) (F : FnOk X.prog X.w X.K X.mg X.base CX k f fd ps sp) (hr : Room (k + 1) X.A) (hg : Gl X x) (hm : X.mg x = some (.ref C)) (hb : Binds X.K fd ps ds) (hd : Vals dvs ds) (hx : ∀ σ, PassesAt CX X σ (E σ))
    (ha : PA X (e :: es) t) (hdb : (x == ("__debug__" : Str)) = false := by decide) (he : starEach (e :: es) X.env = (false, eval e X.env) :: starEach es X.env := by rfl) (hpl : (backTo pos (starEach es X.env)).any (·.1) = false := by rfl) :
    PE X (.Call (.Name x p) (e :: es) [] pos) (tMakeS C sp dvs E t) := by
  refine ⟨fun pins s σ H Q I h => ?_⟩
  refine wpAny_Call_Name_kw (ld_glob I hg hm ?_ hdb)
  refine PySem.W.callWith_K (h₀ := X.base) I.ok.mod.kin M.kp (thn (ha.run pos pins s σ H _ I h) fun us s1 ⟨vs, H1, I1, r, q⟩ => ⟨I1.kIn, ?_⟩) he hpl
  exact run_makeS M F hr hb hd (hx σ) I1 r q
end

/-! ### two tuples of the very same items -/
def Sm (x : V) : Prop := flatB x = true ∨ ∃ a, x = .ref a
def rEqT (K : PySem.W.Frag) : R2 := fun x y H Q => ∃ a b xs, x = .ref a ∧ y = .ref b ∧ SqT K H a xs ∧ SqT K H b xs ∧ (∀ v ∈ xs, Sm v) ∧ Q (.bl true) H
section
variable {X : Cx} {K : PySem.W.Frag}
theorem eq_sm {A : Around} {s : Shared} {x : V} {u v : Value} (h : Sm x) (r : RelV x u) (r2 : RelV x v) : SeqAt.EqAt A s u v true := by
  rcases h with h | ⟨a, rfl⟩
  · exact eqAt_same r r2 h
  · cases (show u = Value.ref a from r)
    cases (show v = Value.ref a from r2)
    exact SeqAt.EqAt.same _
theorem op_eqT (hu : X.A.units + 64 < cLine) : OpR X (compareOp .Eq) (rEqT X.K) := by
  intro pins s σ H x y v u Q I rx ry h
  obtain ⟨a, b, xs, rfl, rfl, ha, hb, hm, q⟩ := h
  cases (show v = Value.ref a from rx)
  cases (show u = Value.ref b from ry)
  obtain ⟨its, r, e, _⟩ := I.tuple ha
  obtain ⟨its2, r2, e2, _⟩ := I.tuple hb
  have hsz : its.toArray.size = its2.toArray.size := by rw [List.size_toArray, List.size_toArray, ← r.length, ← r2.length]
  refine GQ.rc_tupG hsz (by omega) (fun _ s' => s' = s) e e2 (fun i h1 h2 s' es => ?_) (fun s' es => ?_) rfl
  · subst es
    have k1 : i < xs.length := by rw [r.length]; simpa using h1
    obtain ⟨u1, hu1, ru⟩ := r.get (List.getElem?_eq_getElem k1)
    obtain ⟨v1, hv1, rv⟩ := r2.get (List.getElem?_eq_getElem k1)
    have g1 : its[i]? = some its.toArray[i] := by
      have h1' : i < its.length := by simpa using h1
      rw [List.getElem?_eq_getElem h1'] <;> simp
    have g2 : its2[i]? = some its2.toArray[i] := by
      have h2' : i < its2.length := by simpa using h2
      rw [List.getElem?_eq_getElem h2'] <;> simp
    rw [g1] at hu1
    rw [g2] at hv1
    rw [Option.some.inj hu1, Option.some.inj hv1]
    exact eq_sm (hm _ (List.getElem_mem k1)) ru rv X.prog X.w X.xe _ ⟨rfl, rfl⟩
  · subst es
    exact ⟨.bl true, H, I, rfl, q⟩
theorem opEqT (hu : X.A.units + 64 < cLine) (h : X.K = K := by rfl) : OpR X (compareOp .Eq) (rEqT K) := h ▸ op_eqT hu
end
end WT
namespace WQ
open PySem PySem.Spec PyProof.Rows L2 WM

/-! ### numbers, lines, stretches as rows of signs -/
abbrev S (l : List Nat) : Str := ⟨l.toArray⟩
def intL (i : Int) : List Nat := if i < 0 then 45 :: TL.numL i.natAbs else TL.numL i.natAbs
theorem int_S (i : Int) : Str.ofString (toString i) = S (intL i) := by
  cases i with
  | ofNat n =>
    have h : ¬ ((Int.ofNat n) < 0) := Int.not_lt.mpr (Int.natCast_nonneg n)
    unfold intL
    rw [if_neg h]
    exact SX.num_S n
  | negSucc m =>
    have h : (Int.negSucc m) < 0 := Int.negSucc_lt_zero m
    unfold intL
    rw [if_pos h]
    refine TL.ext_tl ?_
    have e : toString (Int.negSucc m) = "-" ++ toString (((m + 1 : Nat)) : Int) := rfl
    have e2 := TL.tl_num (m + 1)
    rw [TL.tl_ofString] at e2
    rw [e, TL.tl_ofString, String.toList_append, List.map_append, e2]
    rfl
theorem intL_nat (n : Nat) : intL (n : Int) = TL.numL n := by
  have h : ¬ (((n : Nat) : Int) < 0) := Int.not_lt.mpr (Int.natCast_nonneg n)
  unfold intL
  rw [if_neg h]
  rfl
def numT (q : Rat) : List Nat := intL q.num ++ (if q.den = 1 then [] else 47 :: TL.numL q.den)
def allDig (l : List Nat) : Bool := l.all fun c => decide (48 ≤ c) && decide (c ≤ 57)
def digIn (l : List Nat) : Option Nat := if (decide (1 ≤ l.length) && decide (l.length ≤ 30)) && allDig l then some (NumText.digitsVal l) else none
/-- a number, if these signs write one -/
def chk (l : List Nat) (s : Int) (t d : Nat) : Option Rat := if d = 0 then none else if numT (Rat.divInt (s * t) d) = l then some (Rat.divInt (s * t) d) else none
def body (l : List Nat) : List Nat := if l.head? = some 45 then l.drop 1 else l
def sgn (l : List Nat) : Int := if l.head? = some 45 then -1 else 1
def readNum (l : List Nat) : Option Rat :=
  match TL.par [47] [] (body l) with
  | some (a, c) => match digIn a, digIn c with
    | some t, some d => chk l (sgn l) t d
    | _, _ => none
  | none => match digIn (body l) with
    | some t => chk l (sgn l) t 1
    | none => none
theorem dig_num {n : Nat} (h : n < 10 ^ 30) : digIn (TL.numL n) = some n := by
  have h1 : 1 ≤ (TL.numL n).length := List.length_pos_iff.mpr (TL.numL_ne n)
  have h2 := TL.numL_len (by decide) h
  have h3 : allDig (TL.numL n) = true := List.all_eq_true.mpr fun c hc => by
    have := TL.numL_digits n c hc
    simp [this.1, this.2]
  unfold digIn
  rw [h3, decide_eq_true h1, decide_eq_true h2, TL.numL_val]
  rfl
theorem no45 (n : Nat) (r : List Nat) : (TL.numL n ++ r).head? ≠ some 45 := by
  have h1 := TL.numL_ne n
  cases e : TL.numL n with
  | nil => exact absurd e h1
  | cons c l =>
    have := TL.numL_digits n c (by rw [e]; exact List.mem_cons_self)
    intro z
    simp at z
    omega
/-- what a number's text reads as -/
theorem read_numT {q : Rat} (h1 : q.num.natAbs < 10 ^ 30) (h2 : q.den < 10 ^ 30) : readNum (numT q) = some q := by
  have hs : sgn (numT q) * (q.num.natAbs : Int) = q.num ∧ body (numT q) = TL.numL q.num.natAbs ++ (if q.den = 1 then [] else 47 :: TL.numL q.den) := by
    unfold sgn body numT intL
    by_cases hn : q.num < 0
    · rw [if_pos hn]
      simp
      omega
    · rw [if_neg hn]
      have := no45 q.num.natAbs (if q.den = 1 then [] else 47 :: TL.numL q.den)
      rw [if_neg this, if_neg this]
      exact ⟨by omega, rfl⟩
  obtain ⟨e1, e2⟩ := hs
  unfold readNum
  rw [e2]
  by_cases hd : q.den = 1
  · rw [if_pos hd, List.append_nil, TL.par_none1 (TL.numL_free (.inl (by decide)))]
    show (match digIn (TL.numL q.num.natAbs) with | some t => chk (numT q) (sgn (numT q)) t 1 | none => none) = some q
    rw [dig_num h1]
    show chk (numT q) (sgn (numT q)) q.num.natAbs 1 = some q
    have e : Rat.divInt (sgn (numT q) * (q.num.natAbs : Int)) ((1 : Nat) : Int) = q := by
      rw [e1, ← hd, Rat.num_divInt_den]
    unfold chk
    rw [e, if_neg (by decide), if_pos rfl]
  · rw [if_neg hd]
    have e : TL.par [47] [] (TL.numL q.num.natAbs ++ (47 :: TL.numL q.den)) = some ([] ++ TL.numL q.num.natAbs, TL.numL q.den) := TL.par_part1 (s := 47) (S := []) (rest := TL.numL q.den) (TL.numL_free (.inl (by decide)))
    rw [e, List.nil_append]
    show (match digIn (TL.numL q.num.natAbs), digIn (TL.numL q.den) with | some t, some d => chk (numT q) (sgn (numT q)) t d | _, _ => none) = some q
    rw [dig_num h1, dig_num h2]
    show chk (numT q) (sgn (numT q)) q.num.natAbs q.den = some q
    have e : Rat.divInt (sgn (numT q) * (q.num.natAbs : Int)) ((q.den : Nat) : Int) = q := by
      rw [e1, Rat.num_divInt_den]
    unfold chk
    rw [e, if_neg q.den_nz, if_pos rfl]
/-- how long a number's text is -/
theorem numT_len {q : Rat} {k : Nat} (hk : 0 < k) (h1 : q.num.natAbs < 10 ^ k) (h2 : q.den < 10 ^ k) : (numT q).length ≤ 2 * k + 2 := by
  have a := TL.numL_len hk h1
  have b := TL.numL_len hk h2
  unfold numT intL
  rw [List.length_append]
  split <;> split <;> simp <;> omega
/-! ### slices, ends -/
theorem S_len (l : List Nat) : (S l).length = l.length := by simp [Str.length]
theorem cut_tail (l : List Nat) : cutS (S l) (some 1) none = S (l.drop 1) := by
  unfold cutS
  rw [S_len]
  show (⟨((l.drop (min 1 l.length)).take (l.length - min 1 l.length)).toArray⟩ : Str) = S (l.drop 1)
  cases l with
  | nil => rfl
  | cons c r =>
    have : min 1 (c :: r).length = 1 := by simp
    rw [this, List.take_of_length_le (by simp)]
theorem cut_init (l : List Nat) : cutS (S l) none (some (-1)) = S l.dropLast := by
  unfold cutS
  rw [S_len]
  show (⟨((l.drop 0).take ((-1 + (l.length : Int)).toNat - 0)).toArray⟩ : Str) = S l.dropLast
  rw [List.drop_zero, List.dropLast_eq_take, show (-1 + (l.length : Int)).toNat - 0 = l.length - 1 by omega]
theorem cut_mid (l : List Nat) : cutS (S l) (some 1) (some (-1)) = S (l.drop 1).dropLast := by
  unfold cutS
  rw [S_len]
  show (⟨((l.drop (min 1 l.length)).take ((-1 + (l.length : Int)).toNat - min 1 l.length)).toArray⟩ : Str) = S (l.drop 1).dropLast
  cases l with
  | nil => rfl
  | cons c r =>
    have : min 1 (c :: r).length = 1 := by simp
    rw [this, List.dropLast_eq_take]
    congr 3
    simp
    omega
theorem starts_one (l : List Nat) (c : Nat) : Txt.startswith (S l) (S [c]) = decide (l.head? = some c) := by
  have h := StrLaws.subAt_one (S l) c 0
  rw [Bool.eq_iff_iff, decide_eq_true_iff]
  have e : (S l).cps.toList[0]? = l.head? := by
    show l[0]? = l.head?
    exact List.head?_eq_getElem?.symm
  rw [e] at h
  rw [← h]
  unfold Txt.startswith
  rw [Bool.and_eq_true, decide_eq_true_iff]
theorem ends_one (l : List Nat) (c : Nat) : Txt.endswith (S l) (S [c]) = decide (l.getLast? = some c) := by
  have h := StrLaws.subAt_one (S l) c (l.length - 1)
  have e : (S l).cps.toList[l.length - 1]? = l.getLast? := by
    show l[l.length - 1]? = l.getLast?
    exact List.getLast?_eq_getElem?.symm
  rw [e] at h
  have e2 : (S l).length - (S [c]).length = l.length - 1 := by rw [S_len, S_len]; rfl
  rw [Bool.eq_iff_iff, decide_eq_true_iff]
  unfold Txt.endswith
  rw [Bool.and_eq_true, decide_eq_true_iff, e2]
  constructor
  · rintro ⟨h1, h2⟩
    refine h.mp ⟨?_, h2⟩
    rw [S_len, S_len] at h1
    show l.length - 1 + (S [c]).length ≤ (S l).length
    rw [S_len, S_len]
    simp at h1 ⊢
    omega
  · intro z
    have := h.mpr z
    refine ⟨?_, this.2⟩
    have q := this.1
    change l.length - 1 + (S [c]).length ≤ (S l).length at q
    rw [S_len, S_len] at q ⊢
    simp at q ⊢
    omega
/-! ### lines -/
def absR (t : Rat) : Rat := if t < 0 then -t else t
def showLine (b t : Rat) : List Nat :=
  if t = 0 then numT b else if b = 0 then numT t ++ [115] else numT b ++ ([32, if t < 0 then 45 else 43, 32] ++ (numT (absR t) ++ [115]))
def readSlope (l : List Nat) : Option Rat := if l.getLast? = some 115 then readNum l.dropLast else none
def parts (l : List Nat) : Option Rat × Option Rat :=
  match TL.spl [32] 0 [] l with
  | [_] => if l.getLast? = some 115 then (some 0, readSlope l) else (readNum l, some 0)
  | [a, s, c] => if s = [43] ∨ s = [45] then (readNum a, (readSlope c).map fun t => if s = [45] then 0 - t else t) else (none, none)
  | _ => (none, none)
def readLine (l : List Nat) : Option (Rat × Rat) :=
  match parts l with
  | (some b, some t) => if showLine b t = l then some (b, t) else none
  | _ => none
theorem numT_free {q : Rat} {s : Nat} (h : s < 45 ∨ 57 < s) : s ∉ numT q := by
  intro hm
  unfold numT intL at hm
  rcases List.mem_append.mp hm with hm | hm
  · split at hm
    · rcases List.mem_cons.mp hm with e | hm
      · omega
      · exact TL.numL_free (by omega) hm
    · exact TL.numL_free (by omega) hm
  · split at hm
    · cases hm
    · rcases List.mem_cons.mp hm with e | hm
      · omega
      · exact TL.numL_free (by omega) hm
theorem numT_ne (q : Rat) : numT q ≠ [] := by
  intro h
  unfold numT intL at h
  rcases List.append_eq_nil_iff.mp h with ⟨h, _⟩
  split at h
  · cases h
  · exact TL.numL_ne _ h
theorem numT_last (q : Rat) : (numT q).getLast? ≠ some 115 := fun h => by
  have := List.mem_of_getLast? h
  exact numT_free (.inr (by decide)) this
theorem absR_num (t : Rat) : (absR t).num.natAbs = t.num.natAbs ∧ (absR t).den = t.den := by
  unfold absR
  split
  · simp
  · exact ⟨rfl, rfl⟩
theorem spl_one {l : List Nat} (h : 32 ∉ l) : TL.spl [32] 0 [] l = [l] := TL.spl_last1 h
theorem spl_three {a s c : List Nat} (h1 : 32 ∉ a) (h2 : 32 ∉ s) (h3 : 32 ∉ c) : TL.spl [32] 0 [] (a ++ ([32] ++ (s ++ ([32] ++ c)))) = [a, s, c] := by
  rw [TL.spl_part1 h1, TL.spl_part1 h2, TL.spl_last1 h3]
  rfl
theorem spl_two {a c : List Nat} (h1 : 32 ∉ a) (h3 : 32 ∉ c) : TL.spl [32] 0 [] (a ++ ([32] ++ c)) = [a, c] := by
  rw [TL.spl_part1 h1, TL.spl_last1 h3]
  rfl
theorem slope_of {q : Rat} (h1 : q.num.natAbs < 10 ^ 30) (h2 : q.den < 10 ^ 30) : readSlope (numT q ++ [115]) = some q := by
  unfold readSlope
  rw [List.getLast?_concat, if_pos rfl, List.dropLast_concat]
  exact read_numT h1 h2
theorem parts_show {b t : Rat} (h1 : b.num.natAbs < 10 ^ 30) (h2 : b.den < 10 ^ 30) (h3 : t.num.natAbs < 10 ^ 30) (h4 : t.den < 10 ^ 30) : parts (showLine b t) = (some b, some t) := by
  unfold showLine
  by_cases ht : t = 0
  · rw [if_pos ht]
    unfold parts
    rw [spl_one (numT_free (.inl (by decide)))]
    show (if (numT b).getLast? = some 115 then (some 0, readSlope (numT b)) else (readNum (numT b), some 0)) = _
    rw [if_neg (numT_last b), read_numT h1 h2, ht]
  · rw [if_neg ht]
    by_cases hb : b = 0
    · rw [if_pos hb]
      have f : 32 ∉ numT t ++ [115] := fun h => by
        rcases List.mem_append.mp h with h | h
        · exact numT_free (.inl (by decide)) h
        · simp at h
      unfold parts
      rw [spl_one f]
      show (if (numT t ++ [115]).getLast? = some 115 then (some 0, readSlope (numT t ++ [115])) else (readNum (numT t ++ [115]), some 0)) = _
      rw [if_pos List.getLast?_concat, slope_of h3 h4, hb]
    · rw [if_neg hb]
      have f : 32 ∉ numT (absR t) ++ [115] := fun h => by
        rcases List.mem_append.mp h with h | h
        · exact numT_free (.inl (by decide)) h
        · simp at h
      obtain ⟨a1, a2⟩ := absR_num t
      have sl := slope_of (q := absR t) (by rw [a1]; exact h3) (by rw [a2]; exact h4)
      unfold parts
      by_cases hn : t < 0
      · rw [if_pos hn, show numT b ++ ([32, 45, 32] ++ (numT (absR t) ++ [115])) = numT b ++ ([32] ++ ([45] ++ ([32] ++ (numT (absR t) ++ [115])))) by simp]
        rw [spl_three (numT_free (.inl (by decide))) (by decide) f]
        show (if ([45] : List Nat) = [43] ∨ ([45] : List Nat) = [45] then _ else _) = _
        rw [if_pos (.inr rfl), read_numT h1 h2, sl]
        show (some b, some (if ([45] : List Nat) = [45] then 0 - absR t else absR t)) = _
        rw [if_pos rfl]
        have : 0 - absR t = t := by
          unfold absR
          rw [if_pos hn]
          grind
        rw [this]
      · rw [if_neg hn, show numT b ++ ([32, 43, 32] ++ (numT (absR t) ++ [115])) = numT b ++ ([32] ++ ([43] ++ ([32] ++ (numT (absR t) ++ [115])))) by simp]
        rw [spl_three (numT_free (.inl (by decide))) (by decide) f]
        show (if ([43] : List Nat) = [43] ∨ ([43] : List Nat) = [45] then _ else _) = _
        rw [if_pos (.inl rfl), read_numT h1 h2, sl]
        show (some b, some (if ([43] : List Nat) = [45] then 0 - absR t else absR t)) = _
        rw [if_neg (by decide)]
        have : absR t = t := by
          unfold absR
          rw [if_neg hn]
        rw [this]
theorem read_line {b t : Rat} (h1 : b.num.natAbs < 10 ^ 30) (h2 : b.den < 10 ^ 30) (h3 : t.num.natAbs < 10 ^ 30) (h4 : t.den < 10 ^ 30) : readLine (showLine b t) = some (b, t) := by
  unfold readLine
  rw [parts_show h1 h2 h3 h4]
  show (if showLine b t = showLine b t then some (b, t) else none) = _
  rw [if_pos rfl]
/-! ### stretches -/
def showStr (p q : Rat) (b1 b2 : Bool) : List Nat := [if b1 then 91 else 40] ++ (numT p ++ ([32] ++ (numT q ++ [if b2 then 93 else 41])))
def opens : Option Nat → Option Bool
  | some c => if c = 91 then some true else if c = 40 then some false else none
  | none => none
def closes : Option Nat → Option Bool
  | some c => if c = 93 then some true else if c = 41 then some false else none
  | none => none
def good4 (p q : Rat) (b1 b2 : Bool) : Bool := decide (p < q) || (decide (p = q) && b1 && b2)
def readStr (l : List Nat) : Option (Rat × Rat × Bool × Bool) :=
  match TL.spl [32] 0 [] (l.drop 1).dropLast with
  | [a, c] => match opens l.head?, closes l.getLast?, readNum a, readNum c with
    | some b1, some b2, some p, some q => if good4 p q b1 b2 then some (p, q, b1, b2) else none
    | _, _, _, _ => none
  | _ => none
theorem read_str {p q : Rat} {b1 b2 : Bool} (h1 : p.num.natAbs < 10 ^ 30) (h2 : p.den < 10 ^ 30) (h3 : q.num.natAbs < 10 ^ 30) (h4 : q.den < 10 ^ 30) (g : good4 p q b1 b2 = true) : readStr (showStr p q b1 b2) = some (p, q, b1, b2) := by
  have e1 : ((showStr p q b1 b2).drop 1).dropLast = numT p ++ ([32] ++ numT q) := by
    show (numT p ++ ([32] ++ (numT q ++ [if b2 then 93 else 41]))).dropLast = _
    rw [← List.append_assoc [32], ← List.append_assoc (numT p), List.dropLast_concat]
  have e2 : (showStr p q b1 b2).getLast? = some (if b2 then 93 else 41) := by
    unfold showStr
    rw [← List.append_assoc [32], ← List.append_assoc (numT p), ← List.append_assoc, List.getLast?_concat]
  have e3 : (showStr p q b1 b2).head? = some (if b1 then 91 else 40) := rfl
  unfold readStr
  rw [e1, spl_two (numT_free (.inl (by decide))) (numT_free (.inl (by decide))), e2, e3]
  show (match opens (some (if b1 then 91 else 40)), closes (some (if b2 then 93 else 41)), readNum (numT p), readNum (numT q) with
    | some b1, some b2, some p, some q => if good4 p q b1 b2 then some (p, q, b1, b2) else none
    | _, _, _, _ => none) = _
  rw [read_numT h1 h2, read_numT h3 h4, show opens (some (if b1 then 91 else 40)) = some b1 by cases b1 <;> rfl, show closes (some (if b2 then 93 else 41)) = some b2 by cases b2 <;> rfl]
  show (if good4 p q b1 b2 = true then some (p, q, b1, b2) else none) = _
  rw [if_pos g]
end WQ
namespace WR
open PySem PySem.Spec PyProof.Rows L2 WM WQ

/-! ### what the law of wrong texts looks for -/
def lawDig (l : List Nat) : Bool := (digIn l).isSome && (decide (l = [48]) || !decide (l.head? = some 48))
theorem head48 : ∀ n : Nat, (TL.numL n).head? = some 48 → TL.numL n = [48] := by
  intro n
  induction n using Nat.strongRecOn with
  | _ n ih =>
    intro h
    by_cases hn : n < 10
    · rw [TL.numL_lt hn] at h ⊢
      simp at h
      rw [h]
    · rw [TL.numL_step (by omega)] at h
      have hne := TL.numL_ne (n / 10)
      have h2 : (TL.numL (n / 10)).head? = some 48 := by
        cases e : TL.numL (n / 10) with
        | nil => exact absurd e hne
        | cons c r =>
          rw [e] at h
          simpa using h
      have := ih (n / 10) (by omega) h2
      have v := TL.numL_val (n / 10)
      rw [this] at v
      have : NumText.digitsVal [48] = 0 := by decide
      omega
theorem lawDig_num {n : Nat} (h : n < 10 ^ 30) : lawDig (TL.numL n) = true := by
  unfold lawDig
  rw [dig_num h]
  by_cases e : (TL.numL n).head? = some 48
  · simp [head48 n e]
  · simp [e]
theorem digIn_dig {l : List Nat} {n : Nat} (h : digIn l = some n) : NumText.AllDigits l ∧ l ≠ [] ∧ n = NumText.digitsVal l := by
  unfold digIn at h
  split at h
  · rename_i c
    cases h
    simp at c
    refine ⟨fun d hd => ?_, ?_, rfl⟩
    · have := List.all_eq_true.mp c.2 d hd
      simpa using this
    · intro e
      rw [e] at c
      simp at c
  · cases h
theorem digIn_lt {l : List Nat} {n : Nat} (h : digIn l = some n) : n < 10 ^ 30 := by
  have fold_lt : ∀ (l : List Nat) (a : Nat), (∀ c ∈ l, c ≤ 57) → l.foldl (fun acc c => acc * 10 + (c - 48)) a < (a + 1) * 10 ^ l.length := by
    intro l
    induction l with
    | nil => intro a _; simp
    | cons c r ih =>
      intro a h
      have h1 := ih (a * 10 + (c - 48)) (fun d hd => h d (List.mem_cons_of_mem _ hd))
      have h2 := h c List.mem_cons_self
      rw [List.foldl_cons, List.length_cons, Nat.pow_succ, Nat.mul_comm (10 ^ r.length) 10, ← Nat.mul_assoc]
      exact Nat.lt_of_lt_of_le h1 (Nat.mul_le_mul_right _ (by omega))
  have h0 := h
  obtain ⟨h1, h2, rfl⟩ := digIn_dig h
  unfold digIn at h0
  split at h0
  · rename_i c
    simp at c
    have := fold_lt l 0 (fun d hd => (h1 d hd).2)
    rw [Nat.zero_add, Nat.one_mul] at this
    exact Nat.lt_of_lt_of_le this (Nat.pow_le_pow_right (by decide) c.1.2)
  · cases h0
theorem num_dig {l : List Nat} (h : lawDig l = true) : ∃ n, digIn l = some n ∧ TL.numL n = l := by
  unfold lawDig at h
  rw [Bool.and_eq_true] at h
  obtain ⟨h1, h2⟩ := h
  cases e : digIn l with
  | none => rw [e] at h1; cases h1
  | some n =>
    refine ⟨n, rfl, ?_⟩
    obtain ⟨a, b, rfl⟩ := digIn_dig e
    obtain ⟨c, r, rfl⟩ := List.exists_cons_of_ne_nil b
    have hh : r.length = 0 ∨ ∃ c' r', c :: r = c' :: r' ∧ 49 ≤ c' := by
      simp at h2
      rcases h2 with ⟨_, h2⟩ | h2
      · exact .inl (by rw [h2]; rfl)
      · have := a c List.mem_cons_self
        exact .inr ⟨c, r, rfl, by omega⟩
    have t := NumText.toDigits_digitsVal r.length (c :: r) rfl a hh
    show (Nat.toDigits 10 (NumText.digitsVal (c :: r))).map Char.toNat = c :: r
    rw [t, List.map_map]
    have : ∀ m : List Nat, NumText.AllDigits m → m.map (Char.toNat ∘ Char.ofNat) = m := by
      intro m
      induction m with
      | nil => intro _; rfl
      | cons d m ih =>
        intro hm
        rw [List.map_cons, ih hm.tail]
        have hd := hm.head
        have : ∀ d : Nat, d < 58 → (Char.ofNat d).toNat = d := by decide
        rw [show (Char.toNat ∘ Char.ofNat) d = d from this d (by omega)]
    exact this _ a
theorem spl_par : ∀ (l acc : List Nat), TL.spl [47] 0 acc l = match TL.par [47] acc l with
    | none => [acc ++ l]
    | some (a, c) => a :: TL.spl [47] 0 [] c
  | [], acc => by
    rw [TL.spl_nil]
    show [acc] = [acc ++ []]
    rw [List.append_nil]
  | c :: r, acc => by
    cases e : TL.pre [47] (c :: r) with
    | true =>
      rw [TL.spl_hit e, TL.par_hit e]
      rfl
    | false =>
      rw [TL.spl_miss e, TL.par_miss e, spl_par r]
      cases TL.par [47] (acc ++ [c]) r with
      | none => simp
      | some p => rfl
/-- the pair that a word writes, as the law has it -/
def lawNum (l : List Nat) : Option (Int × Int) :=
  match TL.spl [47] 0 [] (body l) with
  | [a] => if lawDig a then (if decide (NumText.digitsVal a = 0) && !decide (l = [48]) then none else some (sgn l * (NumText.digitsVal a : Int), 1)) else none
  | [a, c] => if lawDig a && lawDig c then
      (if decide (NumText.digitsVal c = 0) || (decide (NumText.digitsVal c = 1) || !decide ((Rat.divInt (NumText.digitsVal a : Int) (NumText.digitsVal c : Int)).num = (NumText.digitsVal a : Int) ∧ (Rat.divInt (NumText.digitsVal a : Int) (NumText.digitsVal c : Int)).den = NumText.digitsVal c)) then none
       else if decide (NumText.digitsVal a = 0) && !decide (l = [48]) then none else some (sgn l * (NumText.digitsVal a : Int), (NumText.digitsVal c : Int))) else none
  | _ => none
theorem sgn_numT (q : Rat) : sgn (numT q) * (q.num.natAbs : Int) = q.num ∧ body (numT q) = TL.numL q.num.natAbs ++ (if q.den = 1 then [] else 47 :: TL.numL q.den) ∧ (q.num < 0 ↔ (numT q).head? = some 45) := by
  unfold sgn body numT intL
  by_cases hn : q.num < 0
  · rw [if_pos hn]
    simp [hn]
    omega
  · rw [if_neg hn]
    have := no45 q.num.natAbs (if q.den = 1 then [] else 47 :: TL.numL q.den)
    rw [if_neg this, if_neg this]
    exact ⟨by omega, rfl, fun z => absurd z hn, fun z => absurd z this⟩
theorem sgn_cases (l : List Nat) : (sgn l = 1 ∧ l.head? ≠ some 45 ∧ body l = l) ∨ (sgn l = -1 ∧ l.head? = some 45 ∧ l = 45 :: body l) := by
  unfold sgn body
  by_cases h : l.head? = some 45
  · rw [if_pos h, if_pos h]
    refine .inr ⟨rfl, h, ?_⟩
    cases l with
    | nil => cases h
    | cons c r => simp at h; rw [h]; rfl
  · rw [if_neg h, if_neg h]
    exact .inl ⟨rfl, h, rfl⟩
theorem den_red {q : Rat} : (Rat.divInt (q.num.natAbs : Int) (q.den : Int)).num = (q.num.natAbs : Int) ∧ (Rat.divInt (q.num.natAbs : Int) (q.den : Int)).den = q.den := by
  have h : Rat.divInt (q.num.natAbs : Int) (q.den : Int) = absR q := by
    have e : (q.num.natAbs : Int) = (if q.num < 0 then -q.num else q.num) := by split <;> omega
    unfold absR
    have hn : (q.num < 0) ↔ (q < 0) := by
      have h := Rat.num_nonneg (q := q)
      have h2 : q < 0 ↔ ¬ 0 ≤ q := (Rat.not_le).symm
      rw [h2, ← h]
      omega
    by_cases c : q < 0
    · rw [if_pos c, e, if_pos (hn.mpr c), neg_eq]
    · rw [if_neg c, e, if_neg fun z => c (hn.mp z), Rat.num_divInt_den]
  rw [h]
  obtain ⟨h1, h2⟩ := absR_num q
  refine ⟨?_, h2⟩
  have h3 : 0 ≤ (absR q).num := by
    rw [Rat.num_nonneg]
    unfold absR
    split <;> grind
  omega
theorem par_num {n d : Nat} : TL.par [47] [] (TL.numL n ++ (47 :: TL.numL d)) = some (TL.numL n, TL.numL d) := by
  have e := TL.par_part1 (s := 47) (S := []) (p := TL.numL n) (rest := TL.numL d) (acc := []) (TL.numL_free (.inl (by decide)))
  exact e
theorem par_num0 {n : Nat} : TL.par [47] [] (TL.numL n) = none := TL.par_none1 (TL.numL_free (.inl (by decide)))
theorem num48 (n : Nat) : TL.numL n = [48] ↔ n = 0 := by
  constructor
  · intro h
    have v := TL.numL_val n
    rw [h] at v
    exact v.symm
  · intro h
    rw [h]
    rfl
/-- a right text's pair -/
theorem law_numT {q : Rat} (h1 : q.num.natAbs < 10 ^ 30) (h2 : q.den < 10 ^ 30) : lawNum (numT q) = some (q.num, (q.den : Int)) := by
  obtain ⟨e1, e2, e3⟩ := sgn_numT q
  unfold lawNum
  rw [spl_par, e2]
  by_cases hd : q.den = 1
  · rw [if_pos hd, List.append_nil, par_num0]
    show (if lawDig (TL.numL q.num.natAbs) then (if decide (NumText.digitsVal (TL.numL q.num.natAbs) = 0) && !decide (numT q = [48]) then none else some (sgn (numT q) * (NumText.digitsVal (TL.numL q.num.natAbs) : Int), 1)) else none) = _
    rw [lawDig_num h1, if_pos rfl, TL.numL_val, e1]
    rw [if_neg]
    · rw [hd]
      rfl
    · intro z
      rw [Bool.and_eq_true, decide_eq_true_iff] at z
      have h0 : q.num = 0 := by omega
      have : numT q = [48] := by
        unfold numT intL
        rw [if_pos hd, if_neg (by omega), h0]
        rfl
      rw [this] at z
      exact absurd z.2 (by decide)
  · rw [if_neg hd, par_num]
    show (match (TL.numL q.num.natAbs :: TL.spl [47] 0 [] (TL.numL q.den)) with
      | [a] => _
      | [a, c] => _
      | _ => none) = _
    rw [spl_par, par_num0]
    show (if lawDig (TL.numL q.num.natAbs) && lawDig (TL.numL q.den) then
      (if decide (NumText.digitsVal (TL.numL q.den) = 0) || (decide (NumText.digitsVal (TL.numL q.den) = 1) || !decide ((Rat.divInt (NumText.digitsVal (TL.numL q.num.natAbs) : Int) (NumText.digitsVal (TL.numL q.den) : Int)).num = (NumText.digitsVal (TL.numL q.num.natAbs) : Int) ∧ (Rat.divInt (NumText.digitsVal (TL.numL q.num.natAbs) : Int) (NumText.digitsVal (TL.numL q.den) : Int)).den = NumText.digitsVal (TL.numL q.den))) then none
       else if decide (NumText.digitsVal (TL.numL q.num.natAbs) = 0) && !decide (numT q = [48]) then none else some (sgn (numT q) * (NumText.digitsVal (TL.numL q.num.natAbs) : Int), (NumText.digitsVal (TL.numL q.den) : Int))) else none) = _
    rw [lawDig_num h1, lawDig_num h2, TL.numL_val, TL.numL_val, e1]
    have hz : q.num.natAbs ≠ 0 := fun z => by
      have : q = 0 := Rat.num_eq_zero.mp (by omega)
      rw [this] at hd
      exact hd rfl
    have r := den_red (q := q)
    rw [if_pos (by rfl), if_neg, if_neg]
    · rw [decide_eq_false hz]
      exact Bool.false_ne_true
    · rw [decide_eq_false q.den_nz, decide_eq_false hd, decide_eq_true r]
      exact Bool.false_ne_true
theorem chk_some {l : List Nat} {s : Int} {t d : Nat} {q : Rat} (h : chk l s t d = some q) : l = numT q ∧ d ≠ 0 ∧ q = Rat.divInt (s * t) d := by
  unfold chk at h
  split at h
  · cases h
  · rename_i hd
    split at h
    · rename_i hn
      cases h
      exact ⟨hn.symm, hd, rfl⟩
    · cases h
theorem low_le {t b : Int} (hb : b ≠ 0) : (Rat.divInt t b).num.natAbs ≤ t.natAbs ∧ (Rat.divInt t b).den ≤ b.natAbs := by
  refine ⟨?_, ?_⟩
  · rw [Rat.num_divInt]
    have hg : 0 < b.gcd t := gcd_pos hb
    have hd : ((b.gcd t : Nat) : Int) ∣ b.sign * t := Int.dvd_mul_of_dvd_right (Int.gcd_dvd_right ..)
    obtain ⟨k, hk⟩ := hd
    rw [ediv_dvd (k := k) (by omega) hk]
    have h3 : (b.sign * t).natAbs = t.natAbs := by
      rw [Int.natAbs_mul, Int.natAbs_sign_of_ne_zero hb, Nat.one_mul]
    have h4 : (b.sign * t).natAbs = b.gcd t * k.natAbs := by rw [hk, Int.natAbs_mul, Int.natAbs_natCast]
    rw [← h3, h4]
    exact Nat.le_mul_of_pos_left _ hg
  · rw [Rat.den_divInt, if_neg hb]
    exact Nat.div_le_self _ _
theorem read_some {l : List Nat} {q : Rat} (h : readNum l = some q) : l = numT q ∧ q.num.natAbs < 10 ^ 30 ∧ q.den < 10 ^ 30 := by
  have key : ∀ t d : Nat, t < 10 ^ 30 → d < 10 ^ 30 → chk l (sgn l) t d = some q → l = numT q ∧ q.num.natAbs < 10 ^ 30 ∧ q.den < 10 ^ 30 := fun t d ht hd hc => by
    obtain ⟨h1, h2, rfl⟩ := chk_some hc
    have lo := low_le (t := sgn l * (t : Int)) (b := (d : Int)) (by omega)
    have hs : (sgn l * (t : Int)).natAbs = t := by
      rcases sgn_cases l with ⟨f1, _⟩ | ⟨f1, _⟩ <;> rw [f1] <;> omega
    refine ⟨h1, ?_, ?_⟩
    · omega
    · omega
  unfold readNum at h
  cases e : TL.par [47] [] (body l) with
  | none =>
    rw [e] at h
    have h : (match digIn (body l) with | some t => chk l (sgn l) t 1 | none => none) = some q := h
    cases e2 : digIn (body l) with
    | none => rw [e2] at h; cases h
    | some t =>
      rw [e2] at h
      exact key t 1 (digIn_lt e2) (by decide) h
  | some ac =>
    obtain ⟨a, c⟩ := ac
    rw [e] at h
    have h : (match digIn a, digIn c with | some t, some d => chk l (sgn l) t d | _, _ => none) = some q := h
    cases e2 : digIn a with
    | none => rw [e2] at h; cases h
    | some t =>
      cases e3 : digIn c with
      | none => rw [e2, e3] at h; cases h
      | some d =>
        rw [e2, e3] at h
        exact key t d (digIn_lt e2) (digIn_lt e3) h
/-- what has a pair is a right text -/
theorem law_some {l : List Nat} {r : Int × Int} (h : lawNum l = some r) : ∃ q : Rat, l = numT q ∧ q.num.natAbs < 10 ^ 30 ∧ q.den < 10 ^ 30 := by
  unfold lawNum at h
  rw [spl_par] at h
  cases e : TL.par [47] [] (body l) with
  | none =>
    rw [e] at h
    have h : (if lawDig (body l) then (if decide (NumText.digitsVal (body l) = 0) && !decide (l = [48]) then none else some (sgn l * (NumText.digitsVal (body l) : Int), 1)) else none) = some r := h
    by_cases hd : lawDig (body l) = true
    · rw [if_pos hd] at h
      obtain ⟨n, h1, h2⟩ := num_dig hd
      have hv : NumText.digitsVal (body l) = n := by rw [← h2, TL.numL_val]
      have hlt := digIn_lt h1
      rw [hv] at h
      refine ⟨((sgn l * (n : Int) : Int) : Rat), ?_, ?_, ?_⟩
      · have ed : ((sgn l * (n : Int) : Int) : Rat).den = 1 := rfl
        have en : ((sgn l * (n : Int) : Int) : Rat).num = sgn l * (n : Int) := rfl
        unfold numT
        rw [ed, en, if_pos rfl, List.append_nil]
        rcases sgn_cases l with ⟨f1, f2, f3⟩ | ⟨f1, f2, f3⟩
        · rw [f1, Int.one_mul, intL_nat, h2, f3]
        · by_cases hz : n = 0
          · rw [hz] at h
            have hl : l ≠ [48] := fun z => by rw [z] at f2; cases f2
            simp [hl] at h
          · rw [f1]
            unfold intL
            rw [if_pos (by omega), show (-1 * (n : Int)).natAbs = n by omega, h2]
            exact f3
      · show (sgn l * (n : Int)).natAbs < 10 ^ 30
        rcases sgn_cases l with ⟨f1, _⟩ | ⟨f1, _⟩ <;> rw [f1] <;> omega
      · show 1 < 10 ^ 30
        decide
    · rw [if_neg hd] at h
      cases h
  | some ac =>
    obtain ⟨a, c⟩ := ac
    rw [e] at h
    have h : (match (a :: TL.spl [47] 0 [] c) with
      | [a] => if lawDig a then (if decide (NumText.digitsVal a = 0) && !decide (l = [48]) then none else some (sgn l * (NumText.digitsVal a : Int), 1)) else none
      | [a, c] => if lawDig a && lawDig c then
          (if decide (NumText.digitsVal c = 0) || (decide (NumText.digitsVal c = 1) || !decide ((Rat.divInt (NumText.digitsVal a : Int) (NumText.digitsVal c : Int)).num = (NumText.digitsVal a : Int) ∧ (Rat.divInt (NumText.digitsVal a : Int) (NumText.digitsVal c : Int)).den = NumText.digitsVal c)) then none
           else if decide (NumText.digitsVal a = 0) && !decide (l = [48]) then none else some (sgn l * (NumText.digitsVal a : Int), (NumText.digitsVal c : Int))) else none
      | _ => none) = some r := h
    rw [spl_par] at h
    cases e2 : TL.par [47] [] c with
    | some bd =>
      obtain ⟨b', d'⟩ := bd
      rw [e2] at h
      have : TL.spl [47] 0 [] d' ≠ [] := by
        rw [spl_par]
        cases TL.par [47] [] d' <;> simp
      obtain ⟨x, y, hxy⟩ := List.exists_cons_of_ne_nil this
      have h : (match (a :: b' :: TL.spl [47] 0 [] d') with
        | [a] => _
        | [a, c] => _
        | _ => none) = some r := h
      rw [hxy] at h
      cases h
    | none =>
      rw [e2] at h
      have h : (if lawDig a && lawDig c then
          (if decide (NumText.digitsVal c = 0) || (decide (NumText.digitsVal c = 1) || !decide ((Rat.divInt (NumText.digitsVal a : Int) (NumText.digitsVal c : Int)).num = (NumText.digitsVal a : Int) ∧ (Rat.divInt (NumText.digitsVal a : Int) (NumText.digitsVal c : Int)).den = NumText.digitsVal c)) then none
           else if decide (NumText.digitsVal a = 0) && !decide (l = [48]) then none else some (sgn l * (NumText.digitsVal a : Int), (NumText.digitsVal c : Int))) else none) = some r := h
      by_cases hd : (lawDig a && lawDig c) = true
      · rw [if_pos hd] at h
        rw [Bool.and_eq_true] at hd
        obtain ⟨t, t1, t2⟩ := num_dig hd.1
        obtain ⟨d, d1, d2⟩ := num_dig hd.2
        have tv : NumText.digitsVal a = t := by rw [← t2, TL.numL_val]
        have dv : NumText.digitsVal c = d := by rw [← d2, TL.numL_val]
        rw [tv, dv] at h
        by_cases hc : (decide (d = 0) || (decide (d = 1) || !decide ((Rat.divInt (t : Int) (d : Int)).num = (t : Int) ∧ (Rat.divInt (t : Int) (d : Int)).den = d))) = true
        · rw [if_pos hc] at h
          cases h
        · rw [Bool.or_eq_true, Bool.or_eq_true, decide_eq_true_iff, decide_eq_true_iff, Bool.not_eq_true', decide_eq_false_iff_not] at hc
          have c0 : ¬ d = 0 := fun z => hc (.inl z)
          have c1 : ¬ d = 1 := fun z => hc (.inr (.inl z))
          obtain ⟨c2, c3⟩ := Classical.byContradiction fun z => hc (.inr (.inr z))
          have tl := digIn_lt t1
          have dl := digIn_lt d1
          have ht : t ≠ 0 := fun z => by
            rw [z] at c3
            rw [show Rat.divInt ((0 : Nat) : Int) (d : Int) = 0 from Rat.zero_divInt _] at c3
            exact c1 c3.symm
          have pj : ∀ (m acc p r : List Nat), TL.par [47] acc m = some (p, r) → acc ++ m = p ++ (47 :: r) := by
            intro m
            induction m with
            | nil => intro acc p r h; cases h
            | cons x m ih =>
              intro acc p r h
              cases ex : TL.pre [47] (x :: m) with
              | true =>
                rw [TL.par_hit ex] at h
                cases h
                have : x = 47 := by
                  have : ([x] == [47]) = true := ex
                  simpa using this
                rw [this]
                rfl
              | false =>
                rw [TL.par_miss ex] at h
                have := ih _ _ _ h
                rw [← this]
                simp
          have hb : body l = a ++ (47 :: c) := pj _ _ _ _ e
          refine ⟨Rat.divInt (sgn l * (t : Int)) (d : Int), ?_, ?_, ?_⟩
          all_goals
            have eq : (Rat.divInt (sgn l * (t : Int)) (d : Int)).num = sgn l * (t : Int) ∧ (Rat.divInt (sgn l * (t : Int)) (d : Int)).den = d := by
              rcases sgn_cases l with ⟨f1, _⟩ | ⟨f1, _⟩
              · rw [f1, Int.one_mul]
                exact ⟨c2, c3⟩
              · rw [f1, show -1 * (t : Int) = -(t : Int) by omega, show Rat.divInt (-(t : Int)) (d : Int) = -Rat.divInt (t : Int) (d : Int) from (Rat.neg_divInt _ _).symm, Rat.neg_num, Rat.neg_den, c2, c3]
                exact ⟨rfl, rfl⟩
          · unfold numT
            rw [eq.1, eq.2, if_neg c1, d2]
            rcases sgn_cases l with ⟨f1, f2, f3⟩ | ⟨f1, f2, f3⟩
            · rw [f1, Int.one_mul, intL_nat, t2, ← hb, f3]
            · rw [f1]
              unfold intL
              rw [if_pos (by omega), show (-1 * (t : Int)).natAbs = t by omega, t2, List.cons_append, ← hb]
              exact f3
          · rw [eq.1]
            rcases sgn_cases l with ⟨f1, _⟩ | ⟨f1, _⟩ <;> rw [f1] <;> omega
          · rw [eq.2]
            exact dl
      · rw [if_neg hd] at h
        cases h
/-- the law's look and the program's reading tell the same -/
theorem lawNum_eq (l : List Nat) : lawNum l = (readNum l).map fun q => (q.num, (q.den : Int)) := by
  cases h : lawNum l with
  | some r =>
    obtain ⟨q, rfl, h1, h2⟩ := law_some h
    rw [law_numT h1 h2] at h
    rw [read_numT h1 h2]
    exact h.symm
  | none =>
    cases e : readNum l with
    | none => rfl
    | some q =>
      have hq := read_some e
      rw [hq.1, law_numT hq.2.1 hq.2.2] at h
      cases h
/-! ### lines -/
theorem join_spl : ∀ (m acc : List Nat), TL.joinL [32] (TL.spl [32] 0 acc m) = acc ++ m
  | [], acc => by
    rw [TL.spl_nil]
    simp [TL.joinL]
  | x :: m, acc => by
    cases ex : TL.pre [32] (x :: m) with
    | true =>
      rw [TL.spl_hit ex]
      have hx : x = 32 := by
        have : ([x] == [32]) = true := ex
        simpa using this
      have ih := join_spl m []
      have hne : TL.spl [32] ([32].length - 1) [] m ≠ [] := by
        show TL.spl [32] 0 [] m ≠ []
        cases m with
        | nil => rw [TL.spl_nil]; simp
        | cons y r =>
          cases e2 : TL.pre [32] (y :: r) with
          | true => rw [TL.spl_hit e2]; simp
          | false =>
            intro z
            rw [z] at ih
            simp [TL.joinL] at ih
      obtain ⟨u, v, huv⟩ := List.exists_cons_of_ne_nil hne
      have ih : TL.joinL [32] (TL.spl [32] ([32].length - 1) [] m) = [] ++ m := ih
      rw [huv] at ih ⊢
      show acc ++ ([32] ++ TL.joinL [32] (u :: v)) = acc ++ x :: m
      rw [ih, hx]
      rfl
    | false =>
      rw [TL.spl_miss ex, join_spl m]
      simp
def lawLine (l : List Nat) : Bool :=
  match TL.spl [32] 0 [] l with
  | [_] => if l.getLast? = some 115 then (match lawNum l.dropLast with | some r => !decide (r.1 = 0) | none => false) else (lawNum l).isSome
  | [a, s, c] => if (s = [43] ∨ s = [45]) ∧ c.getLast? = some 115 then (match lawNum a, lawNum c.dropLast with | some b, some t => !decide (b.1 = 0) && decide (0 < t.1) | _, _ => false) else false
  | _ => false
theorem last_split {l : List Nat} {c : Nat} (h : l.getLast? = some c) : l.dropLast ++ [c] = l := by
  have hne : l ≠ [] := fun e => by rw [e] at h; cases h
  have e := List.dropLast_concat_getLast hne
  have e2 : l.getLast hne = c := by
    rw [List.getLast?_eq_some_getLast hne] at h
    exact Option.some.inj h
  rw [e2] at e
  exact e
theorem num0 (q : Rat) : decide (q.num = 0) = decide (q = 0) := decide_eq_decide.mpr Rat.num_eq_zero
theorem numpos (q : Rat) : decide (0 < q.num) = decide (0 < q) := decide_eq_decide.mpr (by
  have h := Rat.num_nonneg (q := q)
  have h2 := Rat.num_eq_zero (q := q)
  constructor
  · intro z
    have a := h.mp (by omega)
    have b : q ≠ 0 := fun e => by rw [e] at z; exact absurd z (by decide)
    grind
  · intro z
    have a := h.mpr (by grind)
    have b : q.num ≠ 0 := fun e => by have := h2.mp e; grind
    omega)
theorem free32 {q : Rat} : 32 ∉ numT q := numT_free (.inl (by decide))
theorem r_neg {t : Rat} (h : 0 < t) : ¬ t < 0 ∧ 0 - t < 0 ∧ absR t = t ∧ absR (0 - t) = t := by
  have h1 : ¬ t < 0 := by grind
  have h2 : 0 - t < 0 := by grind
  refine ⟨h1, h2, ?_, ?_⟩
  · unfold absR
    rw [if_neg h1]
  · unfold absR
    rw [if_pos h2]
    grind
theorem r_pos {t : Rat} (h : ¬ 0 < t) (z : t ≠ 0) : t < 0 ∧ ¬ 0 - t < 0 := by
  have h1 : t < 0 := by grind
  exact ⟨h1, by grind⟩
theorem r_ne {t : Rat} (z : t ≠ 0) : 0 - t ≠ 0 := by grind
theorem lawLine_eq (l : List Nat) : lawLine l = (readLine l).isSome := by
  have hj := join_spl l []
  unfold lawLine readLine parts
  match hs : TL.spl [32] 0 [] l with
  | [] => rfl
  | [w] =>
    show (if l.getLast? = some 115 then (match lawNum l.dropLast with | some r => !decide (r.1 = 0) | none => false) else (lawNum l).isSome) = (match (if l.getLast? = some 115 then (some 0, readSlope l) else (readNum l, some 0)) with
      | (some b, some t) => if showLine b t = l then some (b, t) else none
      | _ => none).isSome
    by_cases h : l.getLast? = some 115
    · rw [if_pos h, if_pos h, lawNum_eq]
      have er : readSlope l = readNum l.dropLast := by unfold readSlope; rw [if_pos h]
      rw [er]
      cases e : readNum l.dropLast with
      | none => rfl
      | some t =>
        have ht := (read_some e).1
        have el := last_split h
        show (!decide (t.num = 0)) = (if showLine 0 t = l then some ((0 : Rat), t) else none).isSome
        rw [num0]
        by_cases z : t = 0
        · rw [decide_eq_true z, if_neg]
          · rfl
          · intro q
            unfold showLine at q
            rw [if_pos z] at q
            rw [← q] at h
            exact numT_last 0 h
        · rw [decide_eq_false z, if_pos]
          · rfl
          · unfold showLine
            rw [if_neg z, if_pos rfl, ← ht]
            exact el
    · rw [if_neg h, if_neg h, lawNum_eq]
      cases e : readNum l with
      | none => rfl
      | some b =>
        show true = (if showLine b 0 = l then some (b, (0 : Rat)) else none).isSome
        rw [if_pos]
        · rfl
        · unfold showLine
          rw [if_pos rfl]
          exact (read_some e).1.symm
  | [_, _] => rfl
  | [a, s, c] =>
    rw [hs] at hj
    have hl : a ++ ([32] ++ (s ++ ([32] ++ c))) = l := hj
    show (if (s = [43] ∨ s = [45]) ∧ c.getLast? = some 115 then (match lawNum a, lawNum c.dropLast with | some b, some t => !decide (b.1 = 0) && decide (0 < t.1) | _, _ => false) else false) = (match (if s = [43] ∨ s = [45] then (readNum a, (readSlope c).map fun t => if s = [45] then 0 - t else t) else (none, none)) with
      | (some b, some t) => if showLine b t = l then some (b, t) else none
      | _ => none).isSome
    by_cases h1 : s = [43] ∨ s = [45]
    · rw [if_pos h1]
      by_cases h2 : c.getLast? = some 115
      · rw [if_pos ⟨h1, h2⟩, lawNum_eq, lawNum_eq]
        have er : readSlope c = readNum c.dropLast := by unfold readSlope; rw [if_pos h2]
        rw [er]
        cases ea : readNum a with
        | none => rfl
        | some b =>
          cases ec : readNum c.dropLast with
          | none => rfl
          | some t0 =>
            have ha := (read_some ea).1
            have hc := (read_some ec).1
            have el := last_split h2
            rw [hc] at el
            rw [ha, ← el] at hl
            have cs : (s = [43] ∧ (if s = [45] then 0 - t0 else t0) = t0) ∨ (s = [45] ∧ (if s = [45] then 0 - t0 else t0) = 0 - t0) := by
              rcases h1 with h1 | h1
              · exact .inl ⟨h1, by rw [h1, if_neg (by decide)]⟩
              · exact .inr ⟨h1, by rw [if_pos h1]⟩
            show (!decide (b.num = 0) && decide (0 < t0.num)) = (if showLine b (if s = [45] then 0 - t0 else t0) = l then some (b, (if s = [45] then 0 - t0 else t0)) else none).isSome
            generalize (if s = [45] then 0 - t0 else t0) = t at cs ⊢
            rw [num0, numpos]
            have no : ∀ m : List Nat, 32 ∉ m → m ≠ l := fun m hm z => hm (by rw [z, ← hl]; simp)
            have no2 : ∀ q : Rat, 32 ∉ numT q ++ [115] := fun q z => by
              rcases List.mem_append.mp z with z | z
              · exact free32 z
              · simp at z
            by_cases zb : b = 0
            · rw [decide_eq_true zb, if_neg]
              · rfl
              · have f : 32 ∉ showLine 0 t := by
                  unfold showLine
                  split
                  · exact free32
                  · rw [if_pos rfl]
                    exact no2 _
                rw [zb]
                exact no _ f
            rw [decide_eq_false zb]
            by_cases zt : t0 = 0
            · rw [if_neg]
              · rw [zt]; rfl
              · have : t = 0 := by
                  rcases cs with ⟨_, c⟩ | ⟨_, c⟩
                  · rw [c, zt]
                  · rw [c, zt]; decide +kernel
                have f : 32 ∉ showLine b t := by
                  unfold showLine
                  rw [if_pos this]
                  exact free32
                exact no _ f
            have ht : t ≠ 0 := by
              rcases cs with ⟨_, c⟩ | ⟨_, c⟩
              · rw [c]; exact zt
              · rw [c]; exact r_ne zt
            have sh : showLine b t = numT b ++ ([32, if t < 0 then 45 else 43, 32] ++ (numT (absR t) ++ [115])) := by
              unfold showLine
              rw [if_neg ht, if_neg zb]
            rw [sh, ← hl]
            by_cases pos : 0 < t0
            · rw [decide_eq_true pos, if_pos]
              · rfl
              · rcases cs with ⟨c1, c⟩ | ⟨c1, c⟩
                · rw [c1, c, if_neg (r_neg pos).1, (r_neg pos).2.2.1]
                  rfl
                · rw [c1, c, if_pos (r_neg pos).2.1, (r_neg pos).2.2.2]
                  rfl
            · rw [decide_eq_false pos, if_neg]
              · rfl
              · intro z
                have z := List.append_cancel_left z
                rcases cs with ⟨c1, c⟩ | ⟨c1, c⟩
                · rw [c1, c, if_pos (r_pos pos zt).1] at z
                  simp at z
                · rw [c1, c, if_neg (r_pos pos zt).2] at z
                  simp at z
      · rw [if_neg fun z => h2 z.2]
        have er : readSlope c = none := by unfold readSlope; rw [if_neg h2]
        rw [er]
        cases readNum a <;> rfl
    · rw [if_neg fun z => h1 z.1, if_neg h1]
      rfl
  | _ :: _ :: _ :: _ :: _ => rfl
/-! ### stretches -/
def lawStr (l : List Nat) : Bool :=
  match TL.spl [32] 0 [] (l.drop 1).dropLast with
  | [a, c] => if (l.head? = some 91 ∨ l.head? = some 40) ∧ (l.getLast? = some 93 ∨ l.getLast? = some 41) then (match lawNum a, lawNum c with
      | some p, some q => decide (0 < q.1 * p.2 - p.1 * q.2) || (decide (q.1 * p.2 - p.1 * q.2 = 0) && (decide (l.head? = some 91) && decide (l.getLast? = some 93)))
      | _, _ => false) else false
  | _ => false
theorem lawStr_eq (l : List Nat) : lawStr l = (readStr l).isSome := by
  unfold lawStr readStr
  match TL.spl [32] 0 [] (l.drop 1).dropLast with
  | [] => rfl
  | [_] => rfl
  | [a, c] =>
    show (if (l.head? = some 91 ∨ l.head? = some 40) ∧ (l.getLast? = some 93 ∨ l.getLast? = some 41) then (match lawNum a, lawNum c with
      | some p, some q => decide (0 < q.1 * p.2 - p.1 * q.2) || (decide (q.1 * p.2 - p.1 * q.2 = 0) && (decide (l.head? = some 91) && decide (l.getLast? = some 93)))
      | _, _ => false) else false) = (match opens l.head?, closes l.getLast?, readNum a, readNum c with
      | some b1, some b2, some p, some q => if good4 p q b1 b2 then some (p, q, b1, b2) else none
      | _, _, _, _ => none).isSome
    have ho : ∀ o : Option Nat, (o = some 91 ∧ opens o = some true) ∨ (o = some 40 ∧ opens o = some false) ∨ (¬ (o = some 91 ∨ o = some 40) ∧ opens o = none) := fun o => by
      cases o with
      | none => exact .inr (.inr ⟨by simp, rfl⟩)
      | some k =>
        by_cases h1 : k = 91
        · exact .inl ⟨by rw [h1], by rw [h1]; rfl⟩
        by_cases h2 : k = 40
        · exact .inr (.inl ⟨by rw [h2], by rw [h2]; rfl⟩)
        · refine .inr (.inr ⟨by simp [h1, h2], ?_⟩)
          show (if k = 91 then some true else if k = 40 then some false else none) = none
          rw [if_neg h1, if_neg h2]
    have hc : ∀ o : Option Nat, (o = some 93 ∧ closes o = some true) ∨ (o = some 41 ∧ closes o = some false) ∨ (¬ (o = some 93 ∨ o = some 41) ∧ closes o = none) := fun o => by
      cases o with
      | none => exact .inr (.inr ⟨by simp, rfl⟩)
      | some k =>
        by_cases h1 : k = 93
        · exact .inl ⟨by rw [h1], by rw [h1]; rfl⟩
        by_cases h2 : k = 41
        · exact .inr (.inl ⟨by rw [h2], by rw [h2]; rfl⟩)
        · refine .inr (.inr ⟨by simp [h1, h2], ?_⟩)
          show (if k = 93 then some true else if k = 41 then some false else none) = none
          rw [if_neg h1, if_neg h2]
    have fin : ∀ b1 b2 : Bool, (match lawNum a, lawNum c with
      | some p, some q => decide (0 < q.1 * p.2 - p.1 * q.2) || (decide (q.1 * p.2 - p.1 * q.2 = 0) && (b1 && b2))
      | _, _ => false) = (match some b1, some b2, readNum a, readNum c with
      | some b1, some b2, some p, some q => if good4 p q b1 b2 then some (p, q, b1, b2) else none
      | _, _, _, _ => none).isSome := fun b1 b2 => by
      rw [lawNum_eq, lawNum_eq]
      cases readNum a with
      | none => rfl
      | some p =>
        cases readNum c with
        | none => rfl
        | some q =>
          show (decide (0 < q.num * (p.den : Int) - p.num * (q.den : Int)) || (decide (q.num * (p.den : Int) - p.num * (q.den : Int) = 0) && (b1 && b2))) = (if good4 p q b1 b2 = true then some (p, q, b1, b2) else none).isSome
          have g1 : (p < q) ↔ (p.num * (q.den : Int) < q.num * (p.den : Int)) := Rat.lt_iff p q
          have g2 : (p = q) ↔ (p.num * (q.den : Int) = q.num * (p.den : Int)) := Rat.eq_iff_mul_eq_mul
          have e1 : decide (0 < q.num * (p.den : Int) - p.num * (q.den : Int)) = decide (p < q) := decide_eq_decide.mpr (by rw [g1]; omega)
          have e2 : decide (q.num * (p.den : Int) - p.num * (q.den : Int) = 0) = decide (p = q) := decide_eq_decide.mpr (by rw [g2]; omega)
          rw [e1, e2]
          unfold good4
          cases decide (p < q) <;> cases decide (p = q) <;> cases b1 <;> cases b2 <;> rfl
    rcases ho l.head? with ⟨h1, h2⟩ | ⟨h1, h2⟩ | ⟨h1, h2⟩
    · rcases hc l.getLast? with ⟨k1, k2⟩ | ⟨k1, k2⟩ | ⟨k1, k2⟩
      · rw [h2, k2, if_pos ⟨.inl h1, .inl k1⟩, ← fin, h1, k1]
        rfl
      · rw [h2, k2, if_pos ⟨.inl h1, .inr k1⟩, ← fin, h1, k1]
        rfl
      · rw [h2, k2, if_neg fun z => k1 z.2]
        rfl
    · rcases hc l.getLast? with ⟨k1, k2⟩ | ⟨k1, k2⟩ | ⟨k1, k2⟩
      · rw [h2, k2, if_pos ⟨.inr h1, .inl k1⟩, ← fin, h1, k1]
        rfl
      · rw [h2, k2, if_pos ⟨.inr h1, .inr k1⟩, ← fin, h1, k1]
        rfl
      · rw [h2, k2, if_neg fun z => k1 z.2]
        rfl
    · rw [h2, if_neg fun z => h1 z.1]
      rfl
  | _ :: _ :: _ :: _ => rfl
end WR
namespace Q
open PySem PySem.Spec PyProof.Rows L2 WL WM WO WX WE WT WQ WR
def top (i : Nat) : Stmt := PySem.Challenge.pw_whatspeed_k94_texts_that_are_none.main.body.getD i (.Pass ⟨0, 0, 0, 0⟩)
abbrev PP : Program := PySem.Challenge.pw_whatspeed_k94_texts_that_are_none
abbrev s_BadStretch_init : Stmt := inClass (top 4) 0
abbrev s_BadText_init : Stmt := inClass (top 5) 0
abbrev s_is_integer : Stmt := top 7
abbrev N_is_integer : List Str := ["value"]
theorem sc_is_integer : FnScope ["value"] ["value"] (defScope s_is_integer) := ⟨rfl, rfl, rfl, by decide +kernel, rfl, by decide +kernel, by decide +kernel⟩
abbrev s_shared_divisor : Stmt := top 9
abbrev N_shared_divisor : List Str := ["one", "other"]
theorem sc_shared_divisor : FnScope ["one", "other"] ["one", "other"] (defScope s_shared_divisor) := ⟨rfl, rfl, rfl, by decide +kernel, rfl, by decide +kernel, by decide +kernel⟩
abbrev s_Number_init : Stmt := inClass (top 10) 0
abbrev N_Number_init : List Str := ["self", "top", "bottom", "shared"]
theorem sc_Number_init : FnScope ["self", "top", "bottom", "shared"] ["self", "top", "bottom"] (defScope s_Number_init) := ⟨rfl, rfl, rfl, by decide +kernel, rfl, by decide +kernel, by decide +kernel⟩
abbrev s_Number_top : Stmt := inClass (top 10) 1
abbrev N_Number_top : List Str := ["self"]
theorem sc_Number_top : FnScope ["self"] ["self"] (defScope s_Number_top) := ⟨rfl, rfl, rfl, by decide +kernel, rfl, by decide +kernel, by decide +kernel⟩
abbrev s_Number_bottom : Stmt := inClass (top 10) 2
abbrev N_Number_bottom : List Str := ["self"]
theorem sc_Number_bottom : FnScope ["self"] ["self"] (defScope s_Number_bottom) := ⟨rfl, rfl, rfl, by decide +kernel, rfl, by decide +kernel, by decide +kernel⟩
abbrev s_Number_eq : Stmt := inClass (top 10) 3
abbrev N_Number_eq : List Str := ["self", "other"]
theorem sc_Number_eq : FnScope ["self", "other"] ["self", "other"] (defScope s_Number_eq) := ⟨rfl, rfl, rfl, by decide +kernel, rfl, by decide +kernel, by decide +kernel⟩
abbrev s_Number_is_less : Stmt := inClass (top 10) 4
abbrev N_Number_is_less : List Str := ["self", "other"]
theorem sc_Number_is_less : FnScope ["self", "other"] ["self", "other"] (defScope s_Number_is_less) := ⟨rfl, rfl, rfl, by decide +kernel, rfl, by decide +kernel, by decide +kernel⟩
abbrev s_Number_add : Stmt := inClass (top 10) 5
abbrev N_Number_add : List Str := ["self", "other", "top"]
theorem sc_Number_add : FnScope ["self", "other", "top"] ["self", "other"] (defScope s_Number_add) := ⟨rfl, rfl, rfl, by decide +kernel, rfl, by decide +kernel, by decide +kernel⟩
abbrev s_Number_sub : Stmt := inClass (top 10) 6
abbrev N_Number_sub : List Str := ["self", "other", "top"]
theorem sc_Number_sub : FnScope ["self", "other", "top"] ["self", "other"] (defScope s_Number_sub) := ⟨rfl, rfl, rfl, by decide +kernel, rfl, by decide +kernel, by decide +kernel⟩
abbrev s_Number_divided_by : Stmt := inClass (top 10) 8
abbrev N_Number_divided_by : List Str := ["self", "other"]
theorem sc_Number_divided_by : FnScope ["self", "other"] ["self", "other"] (defScope s_Number_divided_by) := ⟨rfl, rfl, rfl, by decide +kernel, rfl, by decide +kernel, by decide +kernel⟩
abbrev s_Number_neg : Stmt := inClass (top 10) 9
abbrev N_Number_neg : List Str := ["self"]
theorem sc_Number_neg : FnScope ["self"] ["self"] (defScope s_Number_neg) := ⟨rfl, rfl, rfl, by decide +kernel, rfl, by decide +kernel, by decide +kernel⟩
abbrev s_Number_abs : Stmt := inClass (top 10) 10
abbrev N_Number_abs : List Str := ["self"]
theorem sc_Number_abs : FnScope ["self"] ["self"] (defScope s_Number_abs) := ⟨rfl, rfl, rfl, by decide +kernel, rfl, by decide +kernel, by decide +kernel⟩
abbrev s_Number_bool : Stmt := inClass (top 10) 11
abbrev N_Number_bool : List Str := ["self"]
theorem sc_Number_bool : FnScope ["self"] ["self"] (defScope s_Number_bool) := ⟨rfl, rfl, rfl, by decide +kernel, rfl, by decide +kernel, by decide +kernel⟩
abbrev s_whole : Stmt := top 11
abbrev N_whole : List Str := ["count"]
theorem sc_whole : FnScope ["count"] ["count"] (defScope s_whole) := ⟨rfl, rfl, rfl, by decide +kernel, rfl, by decide +kernel, by decide +kernel⟩
abbrev s_Line_init : Stmt := inClass (top 12) 0
abbrev N_Line_init : List Str := ["self", "base", "slope"]
theorem sc_Line_init : FnScope ["self", "base", "slope"] ["self", "base", "slope"] (defScope s_Line_init) := ⟨rfl, rfl, rfl, by decide +kernel, rfl, by decide +kernel, by decide +kernel⟩
abbrev s_Line_base : Stmt := inClass (top 12) 1
abbrev N_Line_base : List Str := ["self"]
theorem sc_Line_base : FnScope ["self"] ["self"] (defScope s_Line_base) := ⟨rfl, rfl, rfl, by decide +kernel, rfl, by decide +kernel, by decide +kernel⟩
abbrev s_Line_slope : Stmt := inClass (top 12) 2
abbrev N_Line_slope : List Str := ["self"]
theorem sc_Line_slope : FnScope ["self"] ["self"] (defScope s_Line_slope) := ⟨rfl, rfl, rfl, by decide +kernel, rfl, by decide +kernel, by decide +kernel⟩
abbrev s_Stretch_init : Stmt := inClass (top 13) 0
abbrev N_Stretch_init : List Str := ["self", "low", "high", "has_low", "has_high"]
theorem sc_Stretch_init : FnScope ["self", "low", "high", "has_low", "has_high"] ["self", "low", "high", "has_low", "has_high"] (defScope s_Stretch_init) := ⟨rfl, rfl, rfl, by decide +kernel, rfl, by decide +kernel, by decide +kernel⟩
abbrev s_Stretch_low : Stmt := inClass (top 13) 1
abbrev N_Stretch_low : List Str := ["self"]
theorem sc_Stretch_low : FnScope ["self"] ["self"] (defScope s_Stretch_low) := ⟨rfl, rfl, rfl, by decide +kernel, rfl, by decide +kernel, by decide +kernel⟩
abbrev s_Stretch_high : Stmt := inClass (top 13) 2
abbrev N_Stretch_high : List Str := ["self"]
theorem sc_Stretch_high : FnScope ["self"] ["self"] (defScope s_Stretch_high) := ⟨rfl, rfl, rfl, by decide +kernel, rfl, by decide +kernel, by decide +kernel⟩
abbrev s_Stretch_has_low : Stmt := inClass (top 13) 3
abbrev N_Stretch_has_low : List Str := ["self"]
theorem sc_Stretch_has_low : FnScope ["self"] ["self"] (defScope s_Stretch_has_low) := ⟨rfl, rfl, rfl, by decide +kernel, rfl, by decide +kernel, by decide +kernel⟩
abbrev s_Stretch_has_high : Stmt := inClass (top 13) 4
abbrev N_Stretch_has_high : List Str := ["self"]
theorem sc_Stretch_has_high : FnScope ["self"] ["self"] (defScope s_Stretch_has_high) := ⟨rfl, rfl, rfl, by decide +kernel, rfl, by decide +kernel, by decide +kernel⟩
abbrev s_show_number : Stmt := top 25
abbrev N_show_number : List Str := ["number"]
theorem sc_show_number : FnScope ["number"] ["number"] (defScope s_show_number) := ⟨rfl, rfl, rfl, by decide +kernel, rfl, by decide +kernel, by decide +kernel⟩
abbrev s_show_line : Stmt := top 26
abbrev N_show_line : List Str := ["line", "sign"]
theorem sc_show_line : FnScope ["line", "sign"] ["line"] (defScope s_show_line) := ⟨rfl, rfl, rfl, by decide +kernel, rfl, by decide +kernel, by decide +kernel⟩
abbrev s_show_stretch : Stmt := top 27
abbrev N_show_stretch : List Str := ["stretch", "begin", "end"]
theorem sc_show_stretch : FnScope ["stretch", "begin", "end"] ["stretch"] (defScope s_show_stretch) := ⟨rfl, rfl, rfl, by decide +kernel, rfl, by decide +kernel, by decide +kernel⟩
abbrev s_digits_in : Stmt := top 28
abbrev N_digits_in : List Str := ["word", "sign"]
theorem sc_digits_in : FnScope ["word", "sign"] ["word"] (defScope s_digits_in) := ⟨rfl, rfl, rfl, by decide +kernel, rfl, by decide +kernel, by decide +kernel⟩
abbrev s_number_in : Stmt := top 29
abbrev N_number_in : List Str := ["word", "sign", "above", "stroke", "below", "top", "bottom", "found"]
theorem sc_number_in : FnScope ["word", "sign", "above", "stroke", "below", "top", "bottom", "found"] ["word"] (defScope s_number_in) := ⟨rfl, rfl, rfl, by decide +kernel, rfl, by decide +kernel, by decide +kernel⟩
abbrev s_slope_in : Stmt := top 30
abbrev N_slope_in : List Str := ["word"]
theorem sc_slope_in : FnScope ["word"] ["word"] (defScope s_slope_in) := ⟨rfl, rfl, rfl, by decide +kernel, rfl, by decide +kernel, by decide +kernel⟩
abbrev s_line_in : Stmt := top 31
abbrev N_line_in : List Str := ["text", "words", "base", "slope", "found"]
theorem sc_line_in : FnScope ["text", "words", "base", "slope", "found"] ["text"] (defScope s_line_in) := ⟨rfl, rfl, rfl, by decide +kernel, rfl, by decide +kernel, by decide +kernel⟩
abbrev s_stretch_in : Stmt := top 32
abbrev N_stretch_in : List Str := ["text", "words", "low", "high"]
theorem sc_stretch_in : FnScope ["text", "words", "low", "high"] ["text"] (defScope s_stretch_in) := ⟨rfl, rfl, rfl, by decide +kernel, rfl, by decide +kernel, by decide +kernel⟩
abbrev s_read_by : Stmt := top 33
abbrev N_read_by : List Str := ["reader", "text", "found"]
theorem sc_read_by : FnScope ["reader", "text", "found"] ["reader", "text"] (defScope s_read_by) := ⟨rfl, rfl, rfl, by decide +kernel, rfl, by decide +kernel, by decide +kernel⟩
abbrev s_read_number : Stmt := top 34
abbrev N_read_number : List Str := ["text"]
theorem sc_read_number : FnScope ["text"] ["text"] (defScope s_read_number) := ⟨rfl, rfl, rfl, by decide +kernel, rfl, by decide +kernel, by decide +kernel⟩
abbrev s_read_line : Stmt := top 35
abbrev N_read_line : List Str := ["text"]
theorem sc_read_line : FnScope ["text"] ["text"] (defScope s_read_line) := ⟨rfl, rfl, rfl, by decide +kernel, rfl, by decide +kernel, by decide +kernel⟩
abbrev s_read_stretch : Stmt := top 36
abbrev N_read_stretch : List Str := ["text"]
theorem sc_read_stretch : FnScope ["text"] ["text"] (defScope s_read_stretch) := ⟨rfl, rfl, rfl, by decide +kernel, rfl, by decide +kernel, by decide +kernel⟩
abbrev s_law_pot : Stmt := top 38
abbrev N_law_pot : List Str := ["script", "k", "cell", "own", "mixed"]
theorem sc_law_pot : FnScope ["script", "k", "cell", "own", "mixed"] ["script", "k"] (defScope s_law_pot) := ⟨rfl, rfl, rfl, by decide +kernel, rfl, by decide +kernel, by decide +kernel⟩
abbrev s_law_take : Stmt := top 39
abbrev N_law_take : List Str := ["pot", "upto", "digit", "prime", "mixed"]
theorem sc_law_take : FnScope ["pot", "upto", "digit", "prime", "mixed"] ["pot", "upto"] (defScope s_law_take) := ⟨rfl, rfl, rfl, by decide +kernel, rfl, by decide +kernel, by decide +kernel⟩
abbrev s_law_of : Stmt := top 40
abbrev N_law_of : List Str := ["pot", "some"]
theorem sc_law_of : FnScope ["pot", "some"] ["pot", "some"] (defScope s_law_of) := ⟨rfl, rfl, rfl, by decide +kernel, rfl, by decide +kernel, by decide +kernel⟩
abbrev s_law_digits : Stmt := top 41
abbrev N_law_digits : List Str := ["pot", "way"]
theorem sc_law_digits : FnScope ["pot", "way"] ["pot"] (defScope s_law_digits) := ⟨rfl, rfl, rfl, by decide +kernel, rfl, by decide +kernel, by decide +kernel⟩
abbrev s_law_lowest : Stmt := top 42
abbrev N_law_lowest : List Str := ["top", "bottom", "one", "other"]
theorem sc_law_lowest : FnScope ["top", "bottom", "one", "other"] ["top", "bottom"] (defScope s_law_lowest) := ⟨rfl, rfl, rfl, by decide +kernel, rfl, by decide +kernel, by decide +kernel⟩
abbrev s_law_pair : Stmt := top 43
abbrev N_law_pair : List Str := ["pot", "top", "bottom"]
theorem sc_law_pair : FnScope ["pot", "top", "bottom"] ["pot"] (defScope s_law_pair) := ⟨rfl, rfl, rfl, by decide +kernel, rfl, by decide +kernel, by decide +kernel⟩
abbrev s_law_number_text : Stmt := top 44
abbrev N_law_number_text : List Str := ["pair"]
theorem sc_law_number_text : FnScope ["pair"] ["pair"] (defScope s_law_number_text) := ⟨rfl, rfl, rfl, by decide +kernel, rfl, by decide +kernel, by decide +kernel⟩
abbrev s_law_line_text : Stmt := top 45
abbrev N_law_line_text : List Str := ["base", "slope", "sign"]
theorem sc_law_line_text : FnScope ["base", "slope", "sign"] ["base", "slope"] (defScope s_law_line_text) := ⟨rfl, rfl, rfl, by decide +kernel, rfl, by decide +kernel, by decide +kernel⟩
abbrev s_law_is_digits : Stmt := top 46
abbrev N_law_is_digits : List Str := ["word", "figures", "sign"]
theorem sc_law_is_digits : FnScope ["word", "figures", "sign"] ["word"] (defScope s_law_is_digits) := ⟨rfl, rfl, rfl, by decide +kernel, rfl, by decide +kernel, by decide +kernel⟩
abbrev s_law_number_of : Stmt := top 47
abbrev N_law_number_of : List Str := ["word", "bare", "parts", "part", "top", "bottom"]
theorem sc_law_number_of : FnScope ["word", "bare", "parts", "part", "top", "bottom"] ["word"] (defScope s_law_number_of) := ⟨rfl, rfl, rfl, by decide +kernel, rfl, by decide +kernel, by decide +kernel⟩
abbrev s_law_is_line : Stmt := top 48
abbrev N_law_is_line : List Str := ["text", "words", "slope", "base"]
theorem sc_law_is_line : FnScope ["text", "words", "slope", "base"] ["text"] (defScope s_law_is_line) := ⟨rfl, rfl, rfl, by decide +kernel, rfl, by decide +kernel, by decide +kernel⟩
abbrev s_law_is_stretch : Stmt := top 49
abbrev N_law_is_stretch : List Str := ["text", "words", "low", "high", "gap"]
theorem sc_law_is_stretch : FnScope ["text", "words", "low", "high", "gap"] ["text"] (defScope s_law_is_stretch) := ⟨rfl, rfl, rfl, by decide +kernel, rfl, by decide +kernel, by decide +kernel⟩
abbrev s_law_due : Stmt := top 50
abbrev N_law_due : List Str := ["way", "value"]
theorem sc_law_due : FnScope ["way", "value"] ["way", "value"] (defScope s_law_due) := ⟨rfl, rfl, rfl, by decide +kernel, rfl, by decide +kernel, by decide +kernel⟩
abbrev s_law_read : Stmt := top 51
abbrev N_law_read : List Str := ["way", "value", "found", "e"]
theorem sc_law_read : FnScope ["way", "value", "found", "e"] ["way", "value"] (defScope s_law_read) := ⟨rfl, rfl, rfl, by decide +kernel, rfl, by decide +kernel, by decide +kernel⟩
abbrev s_law_is_right : Stmt := top 52
abbrev N_law_is_right : List Str := ["way", "value", "found"]
theorem sc_law_is_right : FnScope ["way", "value", "found"] ["way", "value"] (defScope s_law_is_right) := ⟨rfl, rfl, rfl, by decide +kernel, rfl, by decide +kernel, by decide +kernel⟩
abbrev s_law_bent : Stmt := top 53
abbrev N_law_bent : List Str := ["pot", "text", "at", "way", "sign"]
theorem sc_law_bent : FnScope ["pot", "text", "at", "way", "sign"] ["pot", "text"] (defScope s_law_bent) := ⟨rfl, rfl, rfl, by decide +kernel, rfl, by decide +kernel, by decide +kernel⟩
abbrev s_law_drawn : Stmt := top 54
abbrev N_law_drawn : List Str := ["pot", "way", "one", "other"]
theorem sc_law_drawn : FnScope ["pot", "way", "one", "other"] ["pot", "way"] (defScope s_law_drawn) := ⟨rfl, rfl, rfl, by decide +kernel, rfl, by decide +kernel, by decide +kernel⟩
abbrev s_law : Stmt := top 55
abbrev N_law : List Str := ["script", "odd", "value", "way", "k", "pot", "turn", "text"]
theorem sc_law : FnScope ["script", "odd", "value", "way", "k", "pot", "turn", "text"] ["script"] (defScope s_law) := ⟨rfl, rfl, rfl, by decide +kernel, rfl, by decide +kernel, by decide +kernel⟩
structure Ad where
  c_SpeedError : Addr
  c_BadStretch : Addr
  c_BadText : Addr
  c_Number : Addr
  c_Line : Addr
  c_Stretch : Addr
  f_BadStretch_init : Addr
  d_BadStretch_init : FuncData
  f_BadText_init : Addr
  d_BadText_init : FuncData
  f_is_integer : Addr
  d_is_integer : FuncData
  f_shared_divisor : Addr
  d_shared_divisor : FuncData
  f_Number_init : Addr
  d_Number_init : FuncData
  f_Number_top : Addr
  d_Number_top : FuncData
  p_Number_top : Addr
  f_Number_bottom : Addr
  d_Number_bottom : FuncData
  p_Number_bottom : Addr
  f_Number_eq : Addr
  d_Number_eq : FuncData
  f_Number_is_less : Addr
  d_Number_is_less : FuncData
  f_Number_add : Addr
  d_Number_add : FuncData
  f_Number_sub : Addr
  d_Number_sub : FuncData
  f_Number_divided_by : Addr
  d_Number_divided_by : FuncData
  f_Number_neg : Addr
  d_Number_neg : FuncData
  f_Number_abs : Addr
  d_Number_abs : FuncData
  f_Number_bool : Addr
  d_Number_bool : FuncData
  f_whole : Addr
  d_whole : FuncData
  f_Line_init : Addr
  d_Line_init : FuncData
  f_Line_base : Addr
  d_Line_base : FuncData
  p_Line_base : Addr
  f_Line_slope : Addr
  d_Line_slope : FuncData
  p_Line_slope : Addr
  f_Stretch_init : Addr
  d_Stretch_init : FuncData
  f_Stretch_low : Addr
  d_Stretch_low : FuncData
  p_Stretch_low : Addr
  f_Stretch_high : Addr
  d_Stretch_high : FuncData
  p_Stretch_high : Addr
  f_Stretch_has_low : Addr
  d_Stretch_has_low : FuncData
  p_Stretch_has_low : Addr
  f_Stretch_has_high : Addr
  d_Stretch_has_high : FuncData
  p_Stretch_has_high : Addr
  f_show_number : Addr
  d_show_number : FuncData
  f_show_line : Addr
  d_show_line : FuncData
  f_show_stretch : Addr
  d_show_stretch : FuncData
  f_digits_in : Addr
  d_digits_in : FuncData
  f_number_in : Addr
  d_number_in : FuncData
  f_slope_in : Addr
  d_slope_in : FuncData
  f_line_in : Addr
  d_line_in : FuncData
  f_stretch_in : Addr
  d_stretch_in : FuncData
  f_read_by : Addr
  d_read_by : FuncData
  f_read_number : Addr
  d_read_number : FuncData
  f_read_line : Addr
  d_read_line : FuncData
  f_read_stretch : Addr
  d_read_stretch : FuncData
  f_law_pot : Addr
  d_law_pot : FuncData
  f_law_take : Addr
  d_law_take : FuncData
  f_law_of : Addr
  d_law_of : FuncData
  f_law_digits : Addr
  d_law_digits : FuncData
  f_law_lowest : Addr
  d_law_lowest : FuncData
  f_law_pair : Addr
  d_law_pair : FuncData
  f_law_number_text : Addr
  d_law_number_text : FuncData
  f_law_line_text : Addr
  d_law_line_text : FuncData
  f_law_is_digits : Addr
  d_law_is_digits : FuncData
  f_law_number_of : Addr
  d_law_number_of : FuncData
  f_law_is_line : Addr
  d_law_is_line : FuncData
  f_law_is_stretch : Addr
  d_law_is_stretch : FuncData
  f_law_due : Addr
  d_law_due : FuncData
  f_law_read : Addr
  d_law_read : FuncData
  f_law_is_right : Addr
  d_law_is_right : FuncData
  f_law_bent : Addr
  d_law_bent : FuncData
  f_law_drawn : Addr
  d_law_drawn : FuncData
  f_law : Addr
  d_law : FuncData
  D_OPENING : Addr
  es_OPENING : Array DictEntry
  nn_OPENING : Nat
  D_CLOSING : Addr
  es_CLOSING : Array DictEntry
  nn_CLOSING : Nat
structure Txt (K : PySem.W.Frag) (mg : Str → Option Value) (A : Ad) : Prop where
  g_SpeedError : mg "SpeedError" = some (.ref A.c_SpeedError)
  g_BadStretch : mg "BadStretch" = some (.ref A.c_BadStretch)
  g_BadText : mg "BadText" = some (.ref A.c_BadText)
  g_Number : mg "Number" = some (.ref A.c_Number)
  cl_Number : Cls K A.c_Number
  M_Number : Mk K A.c_Number A.f_Number_init
  sf_Number : PySem.W.selfFirst K A.c_Number = true
  ca_Number : PySem.W.findIn K (.ref A.c_Number) "__class__" = some (some (.builtin "object.__class__"))
  cm_Number : PySem.W.mroIn K A.c_Number (.type "object") = some true
  n_Number_own_top : NoAttr K A.c_Number "own_top"
  n_Number_own_bottom : NoAttr K A.c_Number "own_bottom"
  g_Line : mg "Line" = some (.ref A.c_Line)
  cl_Line : Cls K A.c_Line
  M_Line : Mk K A.c_Line A.f_Line_init
  sf_Line : PySem.W.selfFirst K A.c_Line = true
  ca_Line : PySem.W.findIn K (.ref A.c_Line) "__class__" = some (some (.builtin "object.__class__"))
  cm_Line : PySem.W.mroIn K A.c_Line (.type "object") = some true
  n_Line_own_base : NoAttr K A.c_Line "own_base"
  n_Line_own_slope : NoAttr K A.c_Line "own_slope"
  g_Stretch : mg "Stretch" = some (.ref A.c_Stretch)
  cl_Stretch : Cls K A.c_Stretch
  M_Stretch : Mk K A.c_Stretch A.f_Stretch_init
  sf_Stretch : PySem.W.selfFirst K A.c_Stretch = true
  ca_Stretch : PySem.W.findIn K (.ref A.c_Stretch) "__class__" = some (some (.builtin "object.__class__"))
  cm_Stretch : PySem.W.mroIn K A.c_Stretch (.type "object") = some true
  n_Stretch_own_low : NoAttr K A.c_Stretch "own_low"
  n_Stretch_own_high : NoAttr K A.c_Stretch "own_high"
  n_Stretch_includes_low : NoAttr K A.c_Stretch "includes_low"
  n_Stretch_includes_high : NoAttr K A.c_Stretch "includes_high"
  n_Stretch_own_middle : NoAttr K A.c_Stretch "own_middle"
  cn : PySem.W.specialIn K (.builtin "object.__class__") "__get__" = some (some (.builtin "getset_descriptor.__get__"))
  ct : PySem.W.takesIn K (.builtin "object.__class__") = some true
  X_BadStretch : OexC K A.c_BadStretch
  C_BadStretch : CauC K A.c_BadStretch
  no_BadStretch : PySem.W.findIn K (.ref A.c_BadStretch) "value" = some none
  in_BadStretch : PySem.W.findIn K (.ref A.c_BadStretch) "__init__" = some (some (.ref A.f_BadStretch_init))
  ti_BadStretch : PySem.W.typeIn K (.ref A.f_BadStretch_init) = some (.type "function")
  b_BadStretch_init : Binds K A.d_BadStretch_init ["self", "value"] []
  I_BadStretch : ∀ (w : World) (base : Heap), FnOk PP w K mg base CX0 1 A.f_BadStretch_init A.d_BadStretch_init ["self", "value"] (spExI A.c_BadStretch "value")
  em_BadStretch_SpeedError : PySem.W.exmOne K (.ref A.c_BadStretch) (.ref A.c_SpeedError) = some true
  em_BadStretch_BadStretch : PySem.W.exmOne K (.ref A.c_BadStretch) (.ref A.c_BadStretch) = some true
  X_BadText : OexC K A.c_BadText
  C_BadText : CauC K A.c_BadText
  no_BadText : PySem.W.findIn K (.ref A.c_BadText) "value" = some none
  in_BadText : PySem.W.findIn K (.ref A.c_BadText) "__init__" = some (some (.ref A.f_BadText_init))
  ti_BadText : PySem.W.typeIn K (.ref A.f_BadText_init) = some (.type "function")
  b_BadText_init : Binds K A.d_BadText_init ["self", "value"] []
  I_BadText : ∀ (w : World) (base : Heap), FnOk PP w K mg base CX0 1 A.f_BadText_init A.d_BadText_init ["self", "value"] (spExI A.c_BadText "value")
  em_BadText_SpeedError : PySem.W.exmOne K (.ref A.c_BadText) (.ref A.c_SpeedError) = some true
  g_is_integer : mg "is_integer" = some (.ref A.f_is_integer)
  F_is_integer : Fun K "is_integer" "is_integer" s_is_integer A.f_is_integer A.d_is_integer
  b_is_integer : Binds K A.d_is_integer ["value"] []
  g_shared_divisor : mg "shared_divisor" = some (.ref A.f_shared_divisor)
  F_shared_divisor : Fun K "shared_divisor" "shared_divisor" s_shared_divisor A.f_shared_divisor A.d_shared_divisor
  b_shared_divisor : Binds K A.d_shared_divisor ["one", "other"] []
  m_Number_init : Meth K A.c_Number "__init__" A.f_Number_init
  F_Number_init : FunD K "__init__" "Number.__init__" (defArgs s_Number_init) (defBody s_Number_init) (defScope s_Number_init) [.int 1] [] A.f_Number_init A.d_Number_init
  P_Number_top : PropOf K A.c_Number "top" A.p_Number_top A.f_Number_top
  F_Number_top : Fun K "top" "Number.top" s_Number_top A.f_Number_top A.d_Number_top
  b_Number_top : Binds K A.d_Number_top ["self"] []
  P_Number_bottom : PropOf K A.c_Number "bottom" A.p_Number_bottom A.f_Number_bottom
  F_Number_bottom : Fun K "bottom" "Number.bottom" s_Number_bottom A.f_Number_bottom A.d_Number_bottom
  b_Number_bottom : Binds K A.d_Number_bottom ["self"] []
  m_Number_eq : Meth K A.c_Number "__eq__" A.f_Number_eq
  F_Number_eq : Fun K "__eq__" "Number.__eq__" s_Number_eq A.f_Number_eq A.d_Number_eq
  b_Number_eq : Binds K A.d_Number_eq ["self", "other"] []
  m_Number_is_less : Meth K A.c_Number "is_less" A.f_Number_is_less
  F_Number_is_less : Fun K "is_less" "Number.is_less" s_Number_is_less A.f_Number_is_less A.d_Number_is_less
  b_Number_is_less : Binds K A.d_Number_is_less ["self", "other"] []
  m_Number_add : Meth K A.c_Number "__add__" A.f_Number_add
  F_Number_add : Fun K "__add__" "Number.__add__" s_Number_add A.f_Number_add A.d_Number_add
  b_Number_add : Binds K A.d_Number_add ["self", "other"] []
  m_Number_sub : Meth K A.c_Number "__sub__" A.f_Number_sub
  F_Number_sub : Fun K "__sub__" "Number.__sub__" s_Number_sub A.f_Number_sub A.d_Number_sub
  b_Number_sub : Binds K A.d_Number_sub ["self", "other"] []
  m_Number_divided_by : Meth K A.c_Number "divided_by" A.f_Number_divided_by
  F_Number_divided_by : Fun K "divided_by" "Number.divided_by" s_Number_divided_by A.f_Number_divided_by A.d_Number_divided_by
  b_Number_divided_by : Binds K A.d_Number_divided_by ["self", "other"] []
  m_Number_neg : Meth K A.c_Number "__neg__" A.f_Number_neg
  F_Number_neg : Fun K "__neg__" "Number.__neg__" s_Number_neg A.f_Number_neg A.d_Number_neg
  b_Number_neg : Binds K A.d_Number_neg ["self"] []
  m_Number_abs : Meth K A.c_Number "__abs__" A.f_Number_abs
  F_Number_abs : Fun K "__abs__" "Number.__abs__" s_Number_abs A.f_Number_abs A.d_Number_abs
  b_Number_abs : Binds K A.d_Number_abs ["self"] []
  m_Number_bool : Meth K A.c_Number "__bool__" A.f_Number_bool
  F_Number_bool : Fun K "__bool__" "Number.__bool__" s_Number_bool A.f_Number_bool A.d_Number_bool
  b_Number_bool : Binds K A.d_Number_bool ["self"] []
  g_whole : mg "whole" = some (.ref A.f_whole)
  F_whole : Fun K "whole" "whole" s_whole A.f_whole A.d_whole
  b_whole : Binds K A.d_whole ["count"] []
  m_Line_init : Meth K A.c_Line "__init__" A.f_Line_init
  F_Line_init : Fun K "__init__" "Line.__init__" s_Line_init A.f_Line_init A.d_Line_init
  b_Line_init : Binds K A.d_Line_init ["self", "base", "slope"] []
  P_Line_base : PropOf K A.c_Line "base" A.p_Line_base A.f_Line_base
  F_Line_base : Fun K "base" "Line.base" s_Line_base A.f_Line_base A.d_Line_base
  b_Line_base : Binds K A.d_Line_base ["self"] []
  P_Line_slope : PropOf K A.c_Line "slope" A.p_Line_slope A.f_Line_slope
  F_Line_slope : Fun K "slope" "Line.slope" s_Line_slope A.f_Line_slope A.d_Line_slope
  b_Line_slope : Binds K A.d_Line_slope ["self"] []
  m_Stretch_init : Meth K A.c_Stretch "__init__" A.f_Stretch_init
  F_Stretch_init : FunD K "__init__" "Stretch.__init__" (defArgs s_Stretch_init) (defBody s_Stretch_init) (defScope s_Stretch_init) [] [("has_low", .bl true), ("has_high", .bl true)] A.f_Stretch_init A.d_Stretch_init
  P_Stretch_low : PropOf K A.c_Stretch "low" A.p_Stretch_low A.f_Stretch_low
  F_Stretch_low : Fun K "low" "Stretch.low" s_Stretch_low A.f_Stretch_low A.d_Stretch_low
  b_Stretch_low : Binds K A.d_Stretch_low ["self"] []
  P_Stretch_high : PropOf K A.c_Stretch "high" A.p_Stretch_high A.f_Stretch_high
  F_Stretch_high : Fun K "high" "Stretch.high" s_Stretch_high A.f_Stretch_high A.d_Stretch_high
  b_Stretch_high : Binds K A.d_Stretch_high ["self"] []
  P_Stretch_has_low : PropOf K A.c_Stretch "has_low" A.p_Stretch_has_low A.f_Stretch_has_low
  F_Stretch_has_low : Fun K "has_low" "Stretch.has_low" s_Stretch_has_low A.f_Stretch_has_low A.d_Stretch_has_low
  b_Stretch_has_low : Binds K A.d_Stretch_has_low ["self"] []
  P_Stretch_has_high : PropOf K A.c_Stretch "has_high" A.p_Stretch_has_high A.f_Stretch_has_high
  F_Stretch_has_high : Fun K "has_high" "Stretch.has_high" s_Stretch_has_high A.f_Stretch_has_high A.d_Stretch_has_high
  b_Stretch_has_high : Binds K A.d_Stretch_has_high ["self"] []
  g_show_number : mg "show_number" = some (.ref A.f_show_number)
  F_show_number : Fun K "show_number" "show_number" s_show_number A.f_show_number A.d_show_number
  b_show_number : Binds K A.d_show_number ["number"] []
  g_show_line : mg "show_line" = some (.ref A.f_show_line)
  F_show_line : Fun K "show_line" "show_line" s_show_line A.f_show_line A.d_show_line
  b_show_line : Binds K A.d_show_line ["line"] []
  g_show_stretch : mg "show_stretch" = some (.ref A.f_show_stretch)
  F_show_stretch : Fun K "show_stretch" "show_stretch" s_show_stretch A.f_show_stretch A.d_show_stretch
  b_show_stretch : Binds K A.d_show_stretch ["stretch"] []
  g_digits_in : mg "digits_in" = some (.ref A.f_digits_in)
  F_digits_in : Fun K "digits_in" "digits_in" s_digits_in A.f_digits_in A.d_digits_in
  b_digits_in : Binds K A.d_digits_in ["word"] []
  g_number_in : mg "number_in" = some (.ref A.f_number_in)
  F_number_in : Fun K "number_in" "number_in" s_number_in A.f_number_in A.d_number_in
  b_number_in : Binds K A.d_number_in ["word"] []
  g_slope_in : mg "slope_in" = some (.ref A.f_slope_in)
  F_slope_in : Fun K "slope_in" "slope_in" s_slope_in A.f_slope_in A.d_slope_in
  b_slope_in : Binds K A.d_slope_in ["word"] []
  g_line_in : mg "line_in" = some (.ref A.f_line_in)
  F_line_in : Fun K "line_in" "line_in" s_line_in A.f_line_in A.d_line_in
  b_line_in : Binds K A.d_line_in ["text"] []
  g_stretch_in : mg "stretch_in" = some (.ref A.f_stretch_in)
  F_stretch_in : Fun K "stretch_in" "stretch_in" s_stretch_in A.f_stretch_in A.d_stretch_in
  b_stretch_in : Binds K A.d_stretch_in ["text"] []
  g_read_by : mg "read_by" = some (.ref A.f_read_by)
  F_read_by : Fun K "read_by" "read_by" s_read_by A.f_read_by A.d_read_by
  b_read_by : Binds K A.d_read_by ["reader", "text"] []
  g_read_number : mg "read_number" = some (.ref A.f_read_number)
  F_read_number : Fun K "read_number" "read_number" s_read_number A.f_read_number A.d_read_number
  b_read_number : Binds K A.d_read_number ["text"] []
  g_read_line : mg "read_line" = some (.ref A.f_read_line)
  F_read_line : Fun K "read_line" "read_line" s_read_line A.f_read_line A.d_read_line
  b_read_line : Binds K A.d_read_line ["text"] []
  g_read_stretch : mg "read_stretch" = some (.ref A.f_read_stretch)
  F_read_stretch : Fun K "read_stretch" "read_stretch" s_read_stretch A.f_read_stretch A.d_read_stretch
  b_read_stretch : Binds K A.d_read_stretch ["text"] []
  g_law_pot : mg "_law_pot" = some (.ref A.f_law_pot)
  F_law_pot : Fun K "_law_pot" "_law_pot" s_law_pot A.f_law_pot A.d_law_pot
  b_law_pot : Binds K A.d_law_pot ["script", "k"] []
  g_law_take : mg "_law_take" = some (.ref A.f_law_take)
  F_law_take : Fun K "_law_take" "_law_take" s_law_take A.f_law_take A.d_law_take
  b_law_take : Binds K A.d_law_take ["pot", "upto"] []
  g_law_of : mg "_law_of" = some (.ref A.f_law_of)
  F_law_of : Fun K "_law_of" "_law_of" s_law_of A.f_law_of A.d_law_of
  b_law_of : Binds K A.d_law_of ["pot", "some"] []
  g_law_digits : mg "_law_digits" = some (.ref A.f_law_digits)
  F_law_digits : Fun K "_law_digits" "_law_digits" s_law_digits A.f_law_digits A.d_law_digits
  b_law_digits : Binds K A.d_law_digits ["pot"] []
  g_law_lowest : mg "_law_lowest" = some (.ref A.f_law_lowest)
  F_law_lowest : Fun K "_law_lowest" "_law_lowest" s_law_lowest A.f_law_lowest A.d_law_lowest
  b_law_lowest : Binds K A.d_law_lowest ["top", "bottom"] []
  g_law_pair : mg "_law_pair" = some (.ref A.f_law_pair)
  F_law_pair : Fun K "_law_pair" "_law_pair" s_law_pair A.f_law_pair A.d_law_pair
  b_law_pair : Binds K A.d_law_pair ["pot"] []
  g_law_number_text : mg "_law_number_text" = some (.ref A.f_law_number_text)
  F_law_number_text : Fun K "_law_number_text" "_law_number_text" s_law_number_text A.f_law_number_text A.d_law_number_text
  b_law_number_text : Binds K A.d_law_number_text ["pair"] []
  g_law_line_text : mg "_law_line_text" = some (.ref A.f_law_line_text)
  F_law_line_text : Fun K "_law_line_text" "_law_line_text" s_law_line_text A.f_law_line_text A.d_law_line_text
  b_law_line_text : Binds K A.d_law_line_text ["base", "slope"] []
  g_law_is_digits : mg "_law_is_digits" = some (.ref A.f_law_is_digits)
  F_law_is_digits : Fun K "_law_is_digits" "_law_is_digits" s_law_is_digits A.f_law_is_digits A.d_law_is_digits
  b_law_is_digits : Binds K A.d_law_is_digits ["word"] []
  g_law_number_of : mg "_law_number_of" = some (.ref A.f_law_number_of)
  F_law_number_of : Fun K "_law_number_of" "_law_number_of" s_law_number_of A.f_law_number_of A.d_law_number_of
  b_law_number_of : Binds K A.d_law_number_of ["word"] []
  g_law_is_line : mg "_law_is_line" = some (.ref A.f_law_is_line)
  F_law_is_line : Fun K "_law_is_line" "_law_is_line" s_law_is_line A.f_law_is_line A.d_law_is_line
  b_law_is_line : Binds K A.d_law_is_line ["text"] []
  g_law_is_stretch : mg "_law_is_stretch" = some (.ref A.f_law_is_stretch)
  F_law_is_stretch : Fun K "_law_is_stretch" "_law_is_stretch" s_law_is_stretch A.f_law_is_stretch A.d_law_is_stretch
  b_law_is_stretch : Binds K A.d_law_is_stretch ["text"] []
  g_law_due : mg "_law_due" = some (.ref A.f_law_due)
  F_law_due : Fun K "_law_due" "_law_due" s_law_due A.f_law_due A.d_law_due
  b_law_due : Binds K A.d_law_due ["way", "value"] []
  g_law_read : mg "_law_read" = some (.ref A.f_law_read)
  F_law_read : Fun K "_law_read" "_law_read" s_law_read A.f_law_read A.d_law_read
  b_law_read : Binds K A.d_law_read ["way", "value"] []
  g_law_is_right : mg "_law_is_right" = some (.ref A.f_law_is_right)
  F_law_is_right : Fun K "_law_is_right" "_law_is_right" s_law_is_right A.f_law_is_right A.d_law_is_right
  b_law_is_right : Binds K A.d_law_is_right ["way", "value"] []
  g_law_bent : mg "_law_bent" = some (.ref A.f_law_bent)
  F_law_bent : Fun K "_law_bent" "_law_bent" s_law_bent A.f_law_bent A.d_law_bent
  b_law_bent : Binds K A.d_law_bent ["pot", "text"] []
  g_law_drawn : mg "_law_drawn" = some (.ref A.f_law_drawn)
  F_law_drawn : Fun K "_law_drawn" "_law_drawn" s_law_drawn A.f_law_drawn A.d_law_drawn
  b_law_drawn : Binds K A.d_law_drawn ["pot", "way"] []
  F_law : Fun K "law" "law" s_law A.f_law A.d_law
  b_law : Binds K A.d_law ["script"] []
  g_BLANK : ∃ u, mg "BLANK" = some u ∧ RelV (.str " ") u
  g_STROKE : ∃ u, mg "STROKE" = some u ∧ RelV (.str "/") u
  g_MINUS : ∃ u, mg "MINUS" = some u ∧ RelV (.str "-") u
  g_PLUS : ∃ u, mg "PLUS" = some u ∧ RelV (.str "+") u
  g_OF_SPEED : ∃ u, mg "OF_SPEED" = some u ∧ RelV (.str "s") u
  g_DIGITS : ∃ u, mg "DIGITS" = some u ∧ RelV (.str "0123456789") u
  g_MOST_DIGITS : ∃ u, mg "MOST_DIGITS" = some u ∧ RelV (.int 30) u
  g_THREE : ∃ u, mg "THREE" = some u ∧ RelV (.int 3) u
  de_OPENING : ∃ (h0 : _) (h1 : _) (t0 : Tok) (t1 : Tok), A.es_OPENING.toList = [⟨h0, .str "[" t0, .bool true⟩, ⟨h1, .str "(" t1, .bool false⟩]
  g_OPENING : mg "OPENING" = some (.ref A.D_OPENING)
  dv_OPENING_0 : PySem.W.nsIn K A.D_OPENING "[" = some (some (.bool true))
  dv_OPENING_1 : PySem.W.nsIn K A.D_OPENING "(" = some (some (.bool false))
  de_CLOSING : ∃ (h0 : _) (h1 : _) (t0 : Tok) (t1 : Tok), A.es_CLOSING.toList = [⟨h0, .str "]" t0, .bool true⟩, ⟨h1, .str ")" t1, .bool false⟩]
  g_CLOSING : mg "CLOSING" = some (.ref A.D_CLOSING)
  dv_CLOSING_0 : PySem.W.nsIn K A.D_CLOSING "]" = some (some (.bool true))
  dv_CLOSING_1 : PySem.W.nsIn K A.D_CLOSING ")" = some (some (.bool false))
  z_isinstance : mg "isinstance" = none
  z_int : mg "int" = none
  z_bool : mg "bool" = none
  z_abs : mg "abs" = none
  z_len : mg "len" = none
  z_max : mg "max" = none
  z_min : mg "min" = none
  z_range : mg "range" = none
  z_all : mg "all" = none
  z_str : mg "str" = none
  kit_NumNum : PySem.W.kitOne K (.ref A.c_Number) (.ref A.c_Number) = some true
  kit_LinLin : PySem.W.kitOne K (.ref A.c_Line) (.ref A.c_Line) = some true
  kit_StrStr : PySem.W.kitOne K (.ref A.c_Stretch) (.ref A.c_Stretch) = some true
  kit_blbl : PySem.W.kitOne K (.type "bool") (.type "bool") = some true
  kit_BT : PySem.W.kitOne K (.ref A.c_BadText) (.ref A.c_BadText) = some true
  kit_strstr : PySem.W.kitOne K (.type "str") (.type "str") = some true
  kit_nonstr : PySem.W.kitOne K (.type "NoneType") (.type "str") = some false
  kit_nonbl : PySem.W.kitOne K (.type "NoneType") (.type "bool") = some false
  kit_blstr : PySem.W.kitOne K (.type "bool") (.type "str") = some false
  kit_intstr : PySem.W.kitOne K (.type "int") (.type "str") = some false
  kit_intbl : PySem.W.kitOne K (.type "int") (.type "bool") = some false
  kit_tupstr : PySem.W.kitOne K (.type "tuple") (.type "str") = some false
  kit_tupbl : PySem.W.kitOne K (.type "tuple") (.type "bool") = some false
  kit_lststr : PySem.W.kitOne K (.type "list") (.type "str") = some false
  kit_lstbl : PySem.W.kitOne K (.type "list") (.type "bool") = some false
  kit_dctstr : PySem.W.kitOne K (.type "dict") (.type "str") = some false
  kit_dctbl : PySem.W.kitOne K (.type "dict") (.type "bool") = some false
  kit_strbl : PySem.W.kitOne K (.type "str") (.type "bool") = some false
structure TxtW (w : World) (K : PySem.W.Frag) (mg : Str → Option Value) (A : Ad) : Prop where
  t : Txt K mg A
  k_OPENING : KDict K w A.D_OPENING A.es_OPENING A.nn_OPENING
  k_CLOSING : KDict K w A.D_CLOSING A.es_CLOSING A.nn_CLOSING
section
variable {P : Program} {w : World} {K : PySem.W.Frag} {mg : Str → Option Value} {base : Heap} {A : Ad}
/-- an int is an integer -/
def spIsInt : Sp := fun vs H Q _ => ∃ i : Int, vs = [.int i] ∧ Q (.bl true) H
theorem ok_is_integer (T : Txt K mg A) : FnOk P w K mg base CX0 1 A.f_is_integer A.d_is_integer ["value"] spIsInt := by
  refine T.F_is_integer.ok sc_is_integer (fun vs H Q E h => ?_) (fun cdv B outer s H vs Q E hr h => ?_)
  · obtain ⟨i, rfl, _⟩ := h
    rfl
  · obtain ⟨i, rfl, k⟩ := h
    refine ⟨_, pss_one (ps_ret (pe_and (pe_callB call_isi (by rfl) T.z_isinstance (by decide +kernel) (pa_cons (pv 0) (pa_cons (pe_bltn (v := .ty "int") (by rfl) T.z_int (by decide +kernel) rfl) pa_nil)))
      (pe_one (pe_not (pe_callB call_isi (by rfl) T.z_isinstance (by decide +kernel) (pa_cons (pv 0) (pa_cons (pe_bltn (v := .ty "bool") (by rfl) T.z_bool (by decide +kernel) rfl) pa_nil))))))), ?_⟩
    refine ⟨_, rfl, _, _, _, _, true, rfl, .ty "int", .base (.int i), kit_ty (by decide +kernel), true, rfl, ?_⟩
    refine iteT ?_
    refine ⟨_, rfl, _, _, _, _, false, rfl, .ty "bool", .base (.int i), kit_ty (by decide +kernel), false, rfl, ?_⟩
    exact k
end
section
variable {P : Program} {w : World} {K : PySem.W.Frag} {mg : Str → Option Value} {base : Heap} {A : Ad}
def spGcd : Sp := fun vs H Q _ => ∃ a b : Nat, vs = [.int a, .int b] ∧ Q (.int (Nat.gcd a b : Nat)) H
def natAt (σ : L2.St) (i : Nat) : Nat := match σ[i]? with
  | some (some (.int k)) => k.toNat
  | _ => 0
theorem ok_shared_divisor (T : Txt K mg A) : FnOk P w K mg base CX0 1 A.f_shared_divisor A.d_shared_divisor ["one", "other"] spGcd := by
  refine T.F_shared_divisor.ok sc_shared_divisor (fun vs H Q E h => ?_) (fun cdv B outer s H vs Q E hr h => ?_)
  · obtain ⟨a, b, rfl, _⟩ := h
    rfl
  · obtain ⟨a, b, rfl, k⟩ := h
    refine ⟨_, pss_cons (ps_while PassesOwn.never (pt_cmpR op_ne (pv 1) pe_int (nomark _))
      (pss_one (ps_par (i := 0) (j := 1) rfl sc_shared_divisor.nd rfl rfl (by decide) rfl rfl (pa_cons (pv 1) (pa_cons (pe_op op_mod (pv 0) (pv 1)) pa_nil)) (by rfl))))
      (pss_one (ps_ret (pv 0))), ?_⟩
    refine while_by (fun σ H' => ∃ c d : Nat, σ = [some (.int c), some (.int d)] ∧ Nat.gcd c d = Nat.gcd a b ∧ H' = H) (fun σ _ => natAt σ 1) ⟨a, b, rfl, rfl, rfl⟩ ?_ ?_
    · rintro σ H' ⟨c, d, rfl, hg, rfl⟩
      refine ⟨_, rfl, rfl, _, rfl, ?_⟩
      by_cases hd : d = 0
      · subst hd
        refine iteF ?_
        rw [Nat.gcd_zero_right] at hg
        refine ⟨_, rfl, ?_⟩
        rw [hg]
        exact k
      · have hne : (!decide (V.int (d : Int) = V.int 0)) = true := by
          have : ¬ (V.int (d : Int) = V.int 0) := fun e => hd (by injection e with e; omega)
          rw [decide_eq_false this]
          rfl
        rw [hne]
        refine iteT ?_
        refine ⟨_, rfl, _, rfl, _, rfl, _, _, rfl, rfl, (by show (0 : Int) < d; omega), _, _, rfl, ⟨d, c % d, ?_, ?_, rfl⟩, ?_⟩
        · rfl
        · rw [← hg, Nat.gcd_comm c d, Nat.gcd_rec d c, Nat.gcd_comm]
        · show ((c : Int) % (d : Int)).toNat < (d : Int).toNat
          have := Int.emod_lt_of_pos (c : Int) (show (0 : Int) < d by omega)
          have := Int.emod_nonneg (c : Int) (show (d : Int) ≠ 0 by omega)
          omega
    · intro σ H Q Q' m h
      obtain ⟨v, e, q⟩ := h
      obtain ⟨z, b, e2, q2⟩ := q
      exact ⟨v, e, z, b, e2, m _ _ q2⟩
end
/-! ### Number -/
def nf (q : Rat) : List (Str × V) := [("own_top", .int q.num), ("own_bottom", .int (q.den : Int))]
def Num (C : Addr) (H : Hp) (a : Addr) (q : Rat) : Prop := ∃ dx, H a = some (.ins C dx (nf q))
theorem Num.mono {C : Addr} {H H' : Hp} {a : Addr} {q : Rat} (h : Num C H a q) (s : Same H H') : Num C H' a q := by
  obtain ⟨dx, e⟩ := h
  exact ⟨dx, s _ _ e⟩
theorem nf_put (q : Rat) : putF "own_bottom" (.int (q.den : Int)) (putF "own_top" (.int q.num) []) = nf q := by
  show (if ("own_top" : Str) = "own_bottom" then [(("own_bottom" : Str), V.int (q.den : Int))] else (("own_top" : Str), V.int q.num) :: putF "own_bottom" (.int (q.den : Int)) []) = nf q
  rw [if_neg (by decide +kernel)]
  rfl
theorem nf_top (q : Rat) : (nf q).lookup ("own_top" : Str) = some (.int q.num) := by simp [nf, List.lookup]
theorem nf_bot (q : Rat) : (nf q).lookup ("own_bottom" : Str) = some (.int (q.den : Int)) := by
  have : (("own_bottom" : Str) == ("own_top" : Str)) = false := by decide +kernel
  simp [nf, List.lookup, this]
theorem nf_no (q : Rat) {m : Str} (h1 : (m == ("own_top" : Str)) = false) (h2 : (m == ("own_bottom" : Str)) = false) : (nf q).lookup m = none := by simp [nf, List.lookup, h1, h2]
/-- a new instance and its dict, then its fields -/
theorem same_made {C : Addr} {H : Hp} {x dx : Addr} {fs gs : List (Str × V)} (nx : H x = none) (ndx : H dx = none) : Same H (upd (upd (upd H dx (.own x)) x (.ins C dx fs)) x (.ins C dx gs)) := fun b o e => by
  rw [upd_upd, upd_ne (ne_of_none e nx), upd_ne (ne_of_none e ndx)]
  exact e
theorem same_new {H : Hp} {x : Addr} {o : HO} (nx : H x = none) : Same H (upd H x o) := fun b u e => by
  rw [upd_ne (ne_of_none e nx)]
  exact e
theorem abs_nat (t : Int) : (if t < 0 then -t else t) = (t.natAbs : Int) := by split <;> omega
theorem dint_ne {b c : Int} (h : b ≠ c) : decide (V.int b = V.int c) = false := decide_eq_false fun e => h (by injection e)
theorem dint_eq {b c : Int} (h : b = c) : decide (V.int b = V.int c) = true := decide_eq_true (by rw [h])
section
variable {P : Program} {w : World} {K : PySem.W.Frag} {mg : Str → Option Value} {base : Heap} {A : Ad}
def spNumI (C : Addr) : Sp := fun vs H Q _ => ∃ (p dx : Addr) (t b : Int), vs = [.ref p, .int t, .int b] ∧ b ≠ 0 ∧ b.natAbs < 2 ^ 9000 ∧ H p = some (.ins C dx []) ∧ Q .non (upd H p (.ins C dx (nf (Rat.divInt t b))))
theorem ok_Number_init (T : Txt K mg A) : FnOk P w K mg base CX0 2 A.f_Number_init A.d_Number_init ["self", "top", "bottom"] (spNumI A.c_Number) := by
  refine T.F_Number_init.ok sc_Number_init (fun vs H Q E h => ?_) (fun cdv B outer s H vs Q E hr h => ?_)
  · obtain ⟨p, dx, t, b, rfl, _⟩ := h
    rfl
  · obtain ⟨p, dx, t, b, rfl, hb, hbd, hp, k⟩ := h
    refine ⟨_, pss_cons (ps_if (PW.pt (pw_or (pt_not (pt_val (pe_call (ok_is_integer T) hr rfl T.g_is_integer T.F_is_integer.kp T.b_is_integer .nil pass0 (pa_cons (pv 1) pa_nil))))
        (pw_or (pt_not (pt_val (pe_call (ok_is_integer T) hr rfl T.g_is_integer T.F_is_integer.kp T.b_is_integer .nil pass0 (pa_cons (pv 2) pa_nil))))
        (pw_or1 (pt_cmpR op_eq (pv 2) pe_int (nomark _)))))) pss_never pss_nil)
      (pss_cons (ps_set (i := 3) sc_Number_init.nd rfl (Or.inl rfl) (pe_call (ok_shared_divisor T) hr rfl T.g_shared_divisor T.F_shared_divisor.kp T.b_shared_divisor .nil pass0
        (pa_cons (pe_callB call_abs (by rfl) T.z_abs (by decide +kernel) (pa_cons (pv 1) pa_nil)) (pa_cons (pe_callB call_abs (by rfl) T.z_abs (by decide +kernel) (pa_cons (pv 2) pa_nil)) pa_nil))))
      (pss_cons (ps_if (pt_cmpR op_lt (pv 2) pe_int (nomark _)) (pss_one (ps_set (i := 3) sc_Number_init.nd rfl (Or.inl rfl) (pe_un un_neg (pv 3)))) pss_nil)
      (pss_cons (ps_fld (pv 0) (pe_op op_fdivG (pv 1) (pv 3)) rfl)
      (pss_one (ps_fld (pv 0) (pe_op op_fdivG (pv 2) (pv 3)) rfl))))), ?_⟩
    refine ⟨_, rfl, t, rfl, true, rfl, ?_⟩
    refine iteF ?_
    refine ⟨_, rfl, b, rfl, true, rfl, ?_⟩
    refine iteF ?_
    refine ⟨_, rfl, rfl, _, rfl, ?_⟩
    rw [dint_ne hb]
    refine iteF ?_
    refine ⟨_, rfl, t, rfl, _, rfl, b, rfl, t.natAbs, b.natAbs, by rw [abs_nat, abs_nat]; rfl, ?_⟩
    have hg0 : 0 < Nat.gcd t.natAbs b.natAbs := gcd_ne hb rfl
    have hgl : Nat.gcd t.natAbs b.natAbs ≤ b.natAbs := gcd_le hb rfl
    have hn : ∀ s : Int, s = (if b < 0 then -((Nat.gcd t.natAbs b.natAbs : Nat) : Int) else ((Nat.gcd t.natAbs b.natAbs : Nat) : Int)) → CDivG t s ∧ CDivG b s ∧ t.fdiv s = (Rat.divInt t b).num ∧ b.fdiv s = ((Rat.divInt t b).den : Int) := fun s e => by
      have h1 : s ≠ 0 := by rw [e]; split <;> omega
      have h2 : s.natAbs = Nat.gcd t.natAbs b.natAbs := by rw [e]; split <;> omega
      have h3 : s.natAbs.log2 < 9000 := log2_lt (by decide) (by rw [h2]; exact Nat.lt_of_le_of_lt hgl hbd)
      exact ⟨⟨h1, h3⟩, ⟨h1, h3⟩, by rw [e]; exact make_num hb rfl, by rw [e]; exact make_den hb rfl⟩
    refine ⟨_, rfl, _, _, rfl, rfl, _, rfl, ?_⟩
    have fin : ∀ s : Int, s = (if b < 0 then -((Nat.gcd t.natAbs b.natAbs : Nat) : Int) else ((Nat.gcd t.natAbs b.natAbs : Nat) : Int)) →
        (tSeq (sFld K (tVar 0) (tOp (rI CDivG fun i j => .int (i.fdiv j)) (tVar 1) (tVar 3)) "own_top") (sFld K (tVar 0) (tOp (rI CDivG fun i j => .int (i.fdiv j)) (tVar 2) (tVar 3)) "own_bottom")) { nx := fun _ H' => Q .non H', rt := Q }
          [some (.ref p), some (.int t), some (.int b), some (.int s)] H := fun s e => by
      obtain ⟨c1, c2, e1, e2⟩ := hn s e
      refine ⟨_, rfl, _, rfl, _, _, rfl, rfl, c1, _, rfl, p, A.c_Number, dx, [], rfl, hp, T.cl_Number, T.n_Number_own_top, (by decide), ?_⟩
      refine ⟨_, rfl, _, rfl, _, _, rfl, rfl, c2, _, rfl, p, A.c_Number, dx, _, rfl, upd_same, T.cl_Number, T.n_Number_own_bottom, (by show 1 < 1000; decide), ?_⟩
      dsimp only
      rw [upd_upd, e1, e2, nf_put]
      exact k
    refine ite2 (fun hlt => ?_) (fun hlt => ?_)
    · refine ⟨_, rfl, _, rfl, ?_⟩
      exact fin _ (by rw [if_pos (of_decide_eq_true hlt)])
    · exact fin _ (by rw [if_neg fun z => hlt (decide_eq_true z)])
/-- Number(t, b), both written -/
theorem b_Number (T : Txt K mg A) : Binds K A.d_Number_init ["self", "top", "bottom"] [] := by
  obtain ⟨ds, r, b⟩ := T.F_Number_init.binds1 (ps := ["self", "top", "bottom"]) 3 1 (by simp) rfl (fun T' kV dc pm an cd ct us its hu hi => by
    match us, hu, its, hi with
    | [u1, u2, u3], _, [i1], _ => exact ⟨_, rfl, rfl⟩)
  cases r
  exact b
end
/-! ### Number's methods -/
/-- Number(t, b) gives a new number -/
theorem made_num {C : Addr} {H : Hp} {x dx : Addr} (q : Rat) (nx : H x = none) (ndx : H dx = none) :
    Same H (upd (upd (upd H dx (.own x)) x (.ins C dx [])) x (.ins C dx (nf q))) ∧ Num C (upd (upd (upd H dx (.own x)) x (.ins C dx [])) x (.ins C dx (nf q))) x q :=
  ⟨same_made nx ndx, dx, upd_same⟩
section
variable {P : Program} {w : World} {K : PySem.W.Frag} {mg : Str → Option Value} {base : Heap} {A : Ad}
theorem ok_Number_top (T : Txt K mg A) : FnOk P w K mg base CX0 1 A.f_Number_top A.d_Number_top ["self"] (getSp A.c_Number "own_top") := by
  refine T.F_Number_top.ok sc_Number_top (fun vs H Q E h => ?_) (fun cdv B outer s H vs Q E hr h => ?_)
  · obtain ⟨a, dx, fs, v, rfl, _⟩ := h
    rfl
  · obtain ⟨a, dx, fs, v, rfl, e, l, k⟩ := h
    exact ⟨_, pss_one (ps_ret (pe_fld (pv 0) rfl)), _, rfl, a, _, dx, fs, v, rfl, e, T.cl_Number, T.n_Number_own_top, l, k⟩
end
section
variable {P : Program} {w : World} {K : PySem.W.Frag} {mg : Str → Option Value} {base : Heap} {A : Ad}
theorem ok_Number_bottom (T : Txt K mg A) : FnOk P w K mg base CX0 1 A.f_Number_bottom A.d_Number_bottom ["self"] (getSp A.c_Number "own_bottom") := by
  refine T.F_Number_bottom.ok sc_Number_bottom (fun vs H Q E h => ?_) (fun cdv B outer s H vs Q E hr h => ?_)
  · obtain ⟨a, dx, fs, v, rfl, _⟩ := h
    rfl
  · obtain ⟨a, dx, fs, v, rfl, e, l, k⟩ := h
    exact ⟨_, pss_one (ps_ret (pe_fld (pv 0) rfl)), _, rfl, a, _, dx, fs, v, rfl, e, T.cl_Number, T.n_Number_own_bottom, l, k⟩
end
section
variable {P : Program} {w : World} {K : PySem.W.Frag} {mg : Str → Option Value} {base : Heap} {A : Ad}
/-- == of two numbers -/
def spNumEq (C : Addr) : Sp := fun vs H Q _ => ∃ (a b : Addr) (p q : Rat), vs = [.ref a, .ref b] ∧ Num C H a p ∧ Num C H b q ∧ Q (.bl (decide (p = q))) H
theorem rat_eq_dec (p q : Rat) : decide (p = q) = (decide (V.int p.num = V.int q.num) && decide (V.int (p.den : Int) = V.int (q.den : Int))) := by
  by_cases h : p = q
  · subst h
    simp
  · rw [decide_eq_false h]
    by_cases h1 : p.num = q.num
    · have h2 : ¬ ((p.den : Int) = (q.den : Int)) := fun e => h (Rat.ext h1 (by omega))
      rw [dint_ne h2, Bool.and_false]
    · rw [dint_ne h1, Bool.false_and]
theorem ok_Number_eq (T : Txt K mg A) : FnOk P w K mg base CX0 1 A.f_Number_eq A.d_Number_eq ["self", "other"] (spNumEq A.c_Number) := by
  refine T.F_Number_eq.ok sc_Number_eq (fun vs H Q E h => ?_) (fun cdv B outer s H vs Q E hr h => ?_)
  · obtain ⟨a, b, p, q, rfl, _⟩ := h
    rfl
  · obtain ⟨a, b, p, q, rfl, ⟨dx, ha⟩, ⟨dy, hb⟩, k⟩ := h
    refine ⟨_, pss_one (ps_ret (pe_and (pe_callB call_isi (by rfl) T.z_isinstance (by decide +kernel) (pa_cons (pv 1) (pa_cons (pe_glob (v := .ref A.c_Number) (by rfl) T.g_Number rfl) pa_nil)))
      (pe_and (pe_cmpR op_eq (pe_fld (pv 0) rfl) (pe_fld (pv 1) rfl) (nomark _)) (pe_one (pe_cmpR op_eq (pe_fld (pv 0) rfl) (pe_fld (pv 1) rfl) (nomark _)))))), ?_⟩
    refine ⟨_, rfl, _, _, _, _, true, rfl, .own _, .base (.ins hb T.cl_Number T.ca_Number T.cn T.ct T.cm_Number), T.kit_NumNum, true, rfl, ?_⟩
    refine iteT ?_
    refine ⟨_, rfl, a, _, dx, _, _, rfl, ha, T.cl_Number, T.n_Number_own_top, nf_top p, _, rfl, b, _, dy, _, _, rfl, hb, T.cl_Number, T.n_Number_own_top, nf_top q, rfl, _, rfl, ?_⟩
    rw [rat_eq_dec] at k
    refine ite2 (fun h1 => ?_) (fun h1 => ?_)
    · rw [h1, Bool.true_and] at k
      exact ⟨_, rfl, a, _, dx, _, _, rfl, ha, T.cl_Number, T.n_Number_own_bottom, nf_bot p, _, rfl, b, _, dy, _, _, rfl, hb, T.cl_Number, T.n_Number_own_bottom, nf_bot q, rfl, k⟩
    · have h2 := Bool.eq_false_iff.mpr h1
      rw [h2, Bool.false_and] at k
      exact k
end
section
variable {P : Program} {w : World} {K : PySem.W.Frag} {mg : Str → Option Value} {base : Heap} {A : Ad}
/-- an operation of two numbers -/
def spNum2 (C : Addr) (f : Rat → Rat → Rat) : Sp := fun vs H Q _ => ∃ (a b : Addr) (p q : Rat), vs = [.ref a, .ref b] ∧ Num C H a p ∧ Num C H b q ∧ Bd 4000 p ∧ Bd 4000 q ∧
  ∀ x H', Same H H' → H x = none → Num C H' x (f p q) → Q (.ref x) H'
theorem bdw {m n : Nat} {i j : Int} (ha : i.natAbs < 2 ^ m) (hb : j.natAbs < 2 ^ n) (h0 : 0 < m := by decide) (h1 : 0 < n := by decide) (h : m + n ≤ 1000000 := by decide) : CMulW i j := wide_mul ha hb h0 h1 h
end
section
variable {P : Program} {w : World} {K : PySem.W.Frag} {mg : Str → Option Value} {base : Heap} {A : Ad}
theorem ok_Number_add (T : Txt K mg A) : FnOk P w K mg base CX0 4 A.f_Number_add A.d_Number_add ["self", "other"] (spNum2 A.c_Number (· + ·)) := by
  refine T.F_Number_add.ok sc_Number_add (fun vs H Q E h => ?_) (fun cdv B outer s H vs Q E hr h => ?_)
  · obtain ⟨a, b, p, q, rfl, _⟩ := h
    rfl
  · obtain ⟨a, b, p, q, rfl, ⟨dx, ha⟩, ⟨dy, hb⟩, bp, bq, k⟩ := h
    refine ⟨_, pss_cons (ps_set (i := 2) sc_Number_add.nd rfl (Or.inl rfl) (pe_op op_add (pe_op op_mulW (pe_fld (pv 0) rfl) (pe_fld (pv 1) rfl)) (pe_op op_mulW (pe_fld (pv 1) rfl) (pe_fld (pv 0) rfl))))
      (pss_one (ps_ret (pe_make T.M_Number (ok_Number_init T) hr rfl T.g_Number (b_Number T) .nil pass0 (pa_cons (pv 2) (pa_cons (pe_op op_mulW (pe_fld (pv 0) rfl) (pe_fld (pv 1) rfl)) pa_nil))))), ?_⟩
    refine ⟨_, rfl, a, _, dx, _, _, rfl, ha, T.cl_Number, T.n_Number_own_top, nf_top p, _, rfl, b, _, dy, _, _, rfl, hb, T.cl_Number, T.n_Number_own_bottom, nf_bot q, _, _, rfl, rfl, bdw bp.1 bq.den', ?_⟩
    refine ⟨_, rfl, b, _, dy, _, _, rfl, hb, T.cl_Number, T.n_Number_own_top, nf_top q, _, rfl, a, _, dx, _, _, rfl, ha, T.cl_Number, T.n_Number_own_bottom, nf_bot p, _, _, rfl, rfl, bdw bq.1 bp.den', _, _, rfl, rfl, ?_⟩
    refine ⟨_, rfl, _, rfl, a, _, dx, _, _, rfl, ha, T.cl_Number, T.n_Number_own_bottom, nf_bot p, _, rfl, b, _, dy, _, _, rfl, hb, T.cl_Number, T.n_Number_own_bottom, nf_bot q, _, _, rfl, rfl, bdw bp.den' bq.den', ?_⟩
    intro x dz nx ndz nex
    refine ⟨x, dz, _, _, rfl, Int.mul_ne_zero (den_ne p) (den_ne q), up_lt (imul_lt bp.den' bq.den') (by decide), upd_same, rfl, ?_⟩
    have e := made_num (C := A.c_Number) (p + q) nx ndz
    rw [← add_eq] at e
    exact k _ _ e.1 nx (by show Num _ _ _ (p + q); rw [← add_eq]; exact e.2)
end
section
variable {P : Program} {w : World} {K : PySem.W.Frag} {mg : Str → Option Value} {base : Heap} {A : Ad}
theorem ok_Number_sub (T : Txt K mg A) : FnOk P w K mg base CX0 4 A.f_Number_sub A.d_Number_sub ["self", "other"] (spNum2 A.c_Number (· - ·)) := by
  refine T.F_Number_sub.ok sc_Number_sub (fun vs H Q E h => ?_) (fun cdv B outer s H vs Q E hr h => ?_)
  · obtain ⟨a, b, p, q, rfl, _⟩ := h
    rfl
  · obtain ⟨a, b, p, q, rfl, ⟨dx, ha⟩, ⟨dy, hb⟩, bp, bq, k⟩ := h
    refine ⟨_, pss_cons (ps_set (i := 2) sc_Number_sub.nd rfl (Or.inl rfl) (pe_op op_sub (pe_op op_mulW (pe_fld (pv 0) rfl) (pe_fld (pv 1) rfl)) (pe_op op_mulW (pe_fld (pv 1) rfl) (pe_fld (pv 0) rfl))))
      (pss_one (ps_ret (pe_make T.M_Number (ok_Number_init T) hr rfl T.g_Number (b_Number T) .nil pass0 (pa_cons (pv 2) (pa_cons (pe_op op_mulW (pe_fld (pv 0) rfl) (pe_fld (pv 1) rfl)) pa_nil))))), ?_⟩
    refine ⟨_, rfl, a, _, dx, _, _, rfl, ha, T.cl_Number, T.n_Number_own_top, nf_top p, _, rfl, b, _, dy, _, _, rfl, hb, T.cl_Number, T.n_Number_own_bottom, nf_bot q, _, _, rfl, rfl, bdw bp.1 bq.den', ?_⟩
    refine ⟨_, rfl, b, _, dy, _, _, rfl, hb, T.cl_Number, T.n_Number_own_top, nf_top q, _, rfl, a, _, dx, _, _, rfl, ha, T.cl_Number, T.n_Number_own_bottom, nf_bot p, _, _, rfl, rfl, bdw bq.1 bp.den', _, _, rfl, rfl, ?_⟩
    refine ⟨_, rfl, _, rfl, a, _, dx, _, _, rfl, ha, T.cl_Number, T.n_Number_own_bottom, nf_bot p, _, rfl, b, _, dy, _, _, rfl, hb, T.cl_Number, T.n_Number_own_bottom, nf_bot q, _, _, rfl, rfl, bdw bp.den' bq.den', ?_⟩
    intro x dz nx ndz nex
    refine ⟨x, dz, _, _, rfl, Int.mul_ne_zero (den_ne p) (den_ne q), up_lt (imul_lt bp.den' bq.den') (by decide), upd_same, rfl, ?_⟩
    have e := made_num (C := A.c_Number) (p - q) nx ndz
    rw [← sub_eq] at e
    exact k _ _ e.1 nx (by show Num _ _ _ (p - q); rw [← sub_eq]; exact e.2)
end
section
variable {P : Program} {w : World} {K : PySem.W.Frag} {mg : Str → Option Value} {base : Heap} {A : Ad}
/-- the quotient by what is not 0 -/
def spNumDiv (C : Addr) : Sp := fun vs H Q _ => ∃ (a b : Addr) (p q : Rat), vs = [.ref a, .ref b] ∧ Num C H a p ∧ Num C H b q ∧ Bd 4000 p ∧ Bd 4000 q ∧ q ≠ 0 ∧
  ∀ x H', Same H H' → H x = none → Num C H' x (p / q) → Q (.ref x) H'
theorem ok_Number_divided_by (T : Txt K mg A) : FnOk P w K mg base CX0 4 A.f_Number_divided_by A.d_Number_divided_by ["self", "other"] (spNumDiv A.c_Number) := by
  refine T.F_Number_divided_by.ok sc_Number_divided_by (fun vs H Q E h => ?_) (fun cdv B outer s H vs Q E hr h => ?_)
  · obtain ⟨a, b, p, q, rfl, _⟩ := h
    rfl
  · obtain ⟨a, b, p, q, rfl, ⟨dx, ha⟩, ⟨dy, hb⟩, bp, bq, hq, k⟩ := h
    refine ⟨_, pss_cons (ps_if (pt_cmpR op_eq (pe_fld (pv 1) rfl) pe_int (nomark _)) pss_never pss_nil)
      (pss_one (ps_ret (pe_make T.M_Number (ok_Number_init T) hr rfl T.g_Number (b_Number T) .nil pass0 (pa_cons (pe_op op_mulW (pe_fld (pv 0) rfl) (pe_fld (pv 1) rfl)) (pa_cons (pe_op op_mulW (pe_fld (pv 0) rfl) (pe_fld (pv 1) rfl)) pa_nil))))), ?_⟩
    refine ⟨_, rfl, b, _, dy, _, _, rfl, hb, T.cl_Number, T.n_Number_own_top, nf_top q, rfl, _, rfl, ?_⟩
    rw [dint_ne (num_ne hq)]
    refine iteF ?_
    refine ⟨_, rfl, a, _, dx, _, _, rfl, ha, T.cl_Number, T.n_Number_own_top, nf_top p, _, rfl, b, _, dy, _, _, rfl, hb, T.cl_Number, T.n_Number_own_bottom, nf_bot q, _, _, rfl, rfl, bdw bp.1 bq.den', ?_⟩
    refine ⟨_, rfl, a, _, dx, _, _, rfl, ha, T.cl_Number, T.n_Number_own_bottom, nf_bot p, _, rfl, b, _, dy, _, _, rfl, hb, T.cl_Number, T.n_Number_own_top, nf_top q, _, _, rfl, rfl, bdw bp.den' bq.1, ?_⟩
    intro x dz nx ndz nex
    refine ⟨x, dz, _, _, rfl, Int.mul_ne_zero (den_ne p) (num_ne hq), up_lt (imul_lt bp.den' bq.1) (by decide), upd_same, rfl, ?_⟩
    have e := made_num (C := A.c_Number) (p / q) nx ndz
    rw [← div_eq] at e
    exact k _ _ e.1 nx (by rw [← div_eq]; exact e.2)
end
/-! ### Number: -x, abs, bool, is_less; Number(t) -/
def rabs (q : Rat) : Rat := if q < 0 then -q else q
theorem Bd.rabs {n : Nat} {q : Rat} (h : Bd n q) : Bd n (rabs q) := by
  unfold Q.rabs
  split
  · exact h.neg
  · exact h
theorem num_neg_iff (q : Rat) : q.num < 0 ↔ q < 0 := by
  have h := Rat.num_nonneg (q := q)
  have h2 : q < 0 ↔ ¬ 0 ≤ q := (Rat.not_le).symm
  rw [h2, ← h]
  omega
theorem abs_eq (q : Rat) : Rat.divInt (if q.num < 0 then -q.num else q.num) q.den = rabs q := by
  unfold rabs
  by_cases h : q < 0
  · rw [if_pos h, if_pos ((num_neg_iff q).mpr h), neg_eq]
  · rw [if_neg h, if_neg fun z => h ((num_neg_iff q).mp z), Rat.num_divInt_den]
theorem rabs_neg (q : Rat) : rabs (-q) = rabs q := by
  unfold rabs
  split <;> split <;> grind
theorem less_eq (p q : Rat) : decide (p.num * (q.den : Int) < q.num * (p.den : Int)) = decide (p < q) := decide_eq_decide.mpr (Rat.lt_iff p q).symm
theorem truth_eq (q : Rat) : (q.num != 0) = !decide (q = 0) := by
  by_cases h : q = 0
  · subst h
    rfl
  · rw [decide_eq_false h]
    simpa using num_ne h
section
variable {P : Program} {w : World} {K : PySem.W.Frag} {mg : Str → Option Value} {base : Heap} {A : Ad}
/-- an operation of one number -/
def spNum1 (C : Addr) (f : Rat → Rat) : Sp := fun vs H Q _ => ∃ (a : Addr) (p : Rat), vs = [.ref a] ∧ Num C H a p ∧ Bd 8000 p ∧ ∀ x H', Same H H' → H x = none → Num C H' x (f p) → Q (.ref x) H'
theorem ok_Number_neg (T : Txt K mg A) : FnOk P w K mg base CX0 4 A.f_Number_neg A.d_Number_neg ["self"] (spNum1 A.c_Number (- ·)) := by
  refine T.F_Number_neg.ok sc_Number_neg (fun vs H Q E h => ?_) (fun cdv B outer s H vs Q E hr h => ?_)
  · obtain ⟨a, p, rfl, _⟩ := h
    rfl
  · obtain ⟨a, p, rfl, ⟨dx, ha⟩, bp, k⟩ := h
    refine ⟨_, pss_one (ps_ret (pe_make T.M_Number (ok_Number_init T) hr rfl T.g_Number (b_Number T) .nil pass0 (pa_cons (pe_un un_neg (pe_fld (pv 0) rfl)) (pa_cons (pe_fld (pv 0) rfl) pa_nil)))), ?_⟩
    refine ⟨_, rfl, a, _, dx, _, _, rfl, ha, T.cl_Number, T.n_Number_own_top, nf_top p, _, rfl, _, rfl, a, _, dx, _, _, rfl, ha, T.cl_Number, T.n_Number_own_bottom, nf_bot p, ?_⟩
    intro x dz nx ndz nex
    refine ⟨x, dz, _, _, rfl, den_ne p, up_lt bp.den' (by decide), upd_same, rfl, ?_⟩
    have e := made_num (C := A.c_Number) (-p) nx ndz
    rw [← neg_eq] at e
    exact k _ _ e.1 nx (by show Num _ _ _ (-p); rw [← neg_eq]; exact e.2)
theorem ok_Number_abs (T : Txt K mg A) : FnOk P w K mg base CX0 4 A.f_Number_abs A.d_Number_abs ["self"] (spNum1 A.c_Number rabs) := by
  refine T.F_Number_abs.ok sc_Number_abs (fun vs H Q E h => ?_) (fun cdv B outer s H vs Q E hr h => ?_)
  · obtain ⟨a, p, rfl, _⟩ := h
    rfl
  · obtain ⟨a, p, rfl, ⟨dx, ha⟩, bp, k⟩ := h
    refine ⟨_, pss_one (ps_ret (pe_make T.M_Number (ok_Number_init T) hr rfl T.g_Number (b_Number T) .nil pass0 (pa_cons (pe_callB call_abs (by rfl) T.z_abs (by decide +kernel) (pa_cons (pe_fld (pv 0) rfl) pa_nil)) (pa_cons (pe_fld (pv 0) rfl) pa_nil)))), ?_⟩
    refine ⟨_, rfl, a, _, dx, _, _, rfl, ha, T.cl_Number, T.n_Number_own_top, nf_top p, _, rfl, _, rfl, a, _, dx, _, _, rfl, ha, T.cl_Number, T.n_Number_own_bottom, nf_bot p, ?_⟩
    intro x dz nx ndz nex
    refine ⟨x, dz, _, _, rfl, den_ne p, up_lt bp.den' (by decide), upd_same, rfl, ?_⟩
    have e := made_num (C := A.c_Number) (rabs p) nx ndz
    rw [← abs_eq] at e
    exact k _ _ e.1 nx (by rw [← abs_eq]; exact e.2)
def spNumBool (C : Addr) : Sp := fun vs H Q _ => ∃ (a : Addr) (p : Rat), vs = [.ref a] ∧ Num C H a p ∧ Q (.bl (!decide (p = 0))) H
theorem ok_Number_bool (T : Txt K mg A) : FnOk P w K mg base CX0 1 A.f_Number_bool A.d_Number_bool ["self"] (spNumBool A.c_Number) := by
  refine T.F_Number_bool.ok sc_Number_bool (fun vs H Q E h => ?_) (fun cdv B outer s H vs Q E hr h => ?_)
  · obtain ⟨a, p, rfl, _⟩ := h
    rfl
  · obtain ⟨a, p, rfl, ⟨dx, ha⟩, k⟩ := h
    refine ⟨_, pss_one (ps_ret (pe_callTy call_bool1 (by rfl) T.z_bool (by decide +kernel) (pa_cons (pe_fld (pv 0) rfl) pa_nil))), ?_⟩
    refine ⟨_, rfl, a, _, dx, _, _, rfl, ha, T.cl_Number, T.n_Number_own_top, nf_top p, Or.inl ⟨_, rfl, ?_⟩⟩
    rw [truth_eq]
    exact k
def spNumLess (C : Addr) : Sp := fun vs H Q _ => ∃ (a b : Addr) (p q : Rat), vs = [.ref a, .ref b] ∧ Num C H a p ∧ Num C H b q ∧ Bd 8000 p ∧ Bd 8000 q ∧ Q (.bl (decide (p < q))) H
theorem ok_Number_is_less (T : Txt K mg A) : FnOk P w K mg base CX0 1 A.f_Number_is_less A.d_Number_is_less ["self", "other"] (spNumLess A.c_Number) := by
  refine T.F_Number_is_less.ok sc_Number_is_less (fun vs H Q E h => ?_) (fun cdv B outer s H vs Q E hr h => ?_)
  · obtain ⟨a, b, p, q, rfl, _⟩ := h
    rfl
  · obtain ⟨a, b, p, q, rfl, ⟨dx, ha⟩, ⟨dy, hb⟩, bp, bq, k⟩ := h
    refine ⟨_, pss_one (ps_ret (pe_cmpR op_lt (pe_op op_mulW (pe_fld (pv 0) rfl) (pe_fld (pv 1) rfl)) (pe_op op_mulW (pe_fld (pv 1) rfl) (pe_fld (pv 0) rfl)) (nomark _))), ?_⟩
    refine ⟨_, rfl, a, _, dx, _, _, rfl, ha, T.cl_Number, T.n_Number_own_top, nf_top p, _, rfl, b, _, dy, _, _, rfl, hb, T.cl_Number, T.n_Number_own_bottom, nf_bot q, _, _, rfl, rfl, bdw bp.1 bq.den', ?_⟩
    refine ⟨_, rfl, b, _, dy, _, _, rfl, hb, T.cl_Number, T.n_Number_own_top, nf_top q, _, rfl, a, _, dx, _, _, rfl, ha, T.cl_Number, T.n_Number_own_bottom, nf_bot p, _, _, rfl, rfl, bdw bq.1 bp.den', _, _, rfl, rfl, ?_⟩
    show Q (.bl (decide (_ < _))) H
    rw [less_eq]
    exact k
/-- Number(t) -/
theorem b1_Number (T : Txt K mg A) : ∃ ds, Vals [V.int 1] ds ∧ Binds K A.d_Number_init ["self", "top", "bottom"] ds := by
  obtain ⟨ds, r, b⟩ := T.F_Number_init.binds1 (ps := ["self", "top", "bottom"]) 2 0 (by simp) rfl (fun T' kV dc pm an cd ct us its hu hi => by
    match us, hu, its, hi with
    | [u1, u2], _, [i1], _ => exact ⟨_, rfl, rfl⟩)
  exact ⟨ds, r, b⟩
end
/-! ### draws -/
/-- a pot at p, of which n numbers at most were drawn behind its own digits -/
def Pot (H : Hp) (p : Addr) (n : Nat) : Prop := ∃ own mix c : Int, H p = some (.lst [.int own, .int mix, .int c]) ∧ 0 ≤ own ∧ 0 ≤ mix ∧ mix < 2305843009213693921 ∧ 0 ≤ c ∧ c ≤ n
theorem Pot.mono {H : Hp} {p : Addr} {m n : Nat} (h : Pot H p m) (l : m ≤ n) : Pot H p n := by
  obtain ⟨own, mix, c, e, h1, h2, h3, h4, h5⟩ := h
  exact ⟨own, mix, c, e, h1, h2, h3, h4, by omega⟩
theorem Pot.same {H H' : Hp} {p : Addr} {n : Nat} (h : Pot H p n) (s : Same H H') : Pot H' p n := by
  obtain ⟨own, mix, c, e, h⟩ := h
  exact ⟨own, mix, c, s _ _ e, h⟩
/-- all but what stands at p is as it was -/
def SameBut (p : Addr) (H H' : Hp) : Prop := ∀ b o, H b = some o → b ≠ p → H' b = some o
theorem SameBut.refl (p : Addr) (H : Hp) : SameBut p H H := fun _ _ e _ => e
theorem SameBut.trans {p : Addr} {H H1 H2 : Hp} (a : SameBut p H H1) (b : SameBut p H1 H2) : SameBut p H H2 := fun c o e n => b c o (a c o e n) n
theorem SameBut.same {p : Addr} {H H1 H2 : Hp} (a : SameBut p H H1) (b : Same H1 H2) : SameBut p H H2 := fun c o e n => b c o (a c o e n)
theorem Same.but {H H1 : Hp} (p : Addr) (b : Same H H1) : SameBut p H H1 := fun c o e _ => b c o e
theorem but_upd {p : Addr} {H : Hp} {o : HO} : SameBut p H (upd H p o) := fun c u e n => by rw [upd_ne n]; exact e
theorem Num.but {C p : Addr} {H H' : Hp} {a : Addr} {q : Rat} (h : Num C H a q) (s : SameBut p H H') (hp : ∃ xs, H p = some (.lst xs)) : Num C H' a q := by
  obtain ⟨dx, e⟩ := h
  obtain ⟨xs, ep⟩ := hp
  exact ⟨dx, s _ _ e (ne_of e ep (by intro z; cases z))⟩
theorem tup_but {p a : Addr} {H H' : Hp} {ys : List V} (h : H a = some (.tup ys)) (s : SameBut p H H') (hp : ∃ xs, H p = some (.lst xs)) : H' a = some (.tup ys) := by
  obtain ⟨xs, ep⟩ := hp
  exact s _ _ h (ne_of h ep (by intro z; cases z))
theorem Pot.lst {H : Hp} {p : Addr} {n : Nat} (h : Pot H p n) : ∃ xs, H p = some (.lst xs) := by
  obtain ⟨own, mix, c, e, _⟩ := h
  exact ⟨_, e⟩
theorem prime_at (c : Int) (h : 0 ≤ c) : ∃ q : Int, atI [V.int 2147483647, V.int 2147483629, V.int 2147483587, V.int 2147483579, V.int 2147483563] (c % 5) = some (.int q) ∧ 0 < q ∧ q < 2 ^ 32 := by
  have h1 := Int.emod_nonneg c (show (5 : Int) ≠ 0 by decide)
  have h2 := Int.emod_lt_of_pos c (show (0 : Int) < 5 by decide)
  have h3 : c % 5 = 0 ∨ c % 5 = 1 ∨ c % 5 = 2 ∨ c % 5 = 3 ∨ c % 5 = 4 := by omega
  rcases h3 with e | e | e | e | e <;> rw [e]
  · exact ⟨_, rfl, by decide, by decide⟩
  · exact ⟨_, rfl, by decide, by decide⟩
  · exact ⟨_, rfl, by decide, by decide⟩
  · exact ⟨_, rfl, by decide, by decide⟩
  · exact ⟨_, rfl, by decide, by decide⟩
theorem at_mem {α : Type} {xs : List α} {i : Int} (h0 : 0 ≤ i) (h1 : i < xs.length) : ∃ v, atI xs i = some v ∧ v ∈ xs := by
  have hl : i.toNat < xs.length := by omega
  have e : ((i.toNat : Nat) : Int) = i := by omega
  have h := atI_nat (xs := xs) (j := i.toNat) (v := xs[i.toNat]) (by simp [hl])
  rw [e] at h
  exact ⟨_, h, List.getElem_mem hl⟩
theorem bit_lt (c : Bool) : -(2 ^ 64) < (if c = true then (1 : Int) else 0) ∧ (if c = true then (1 : Int) else 0) < 2 ^ 64 := by cases c <;> decide
theorem bit_nn (c : Bool) : 0 ≤ (if c = true then (1 : Int) else 0) := by cases c <;> decide
/-- the answer is an int, whichever way -/
theorem with_int {Q : VK} {te : TE} {σ : L2.St} {H : Hp} (h : (∀ i : Int, Q (.int i) H) → te σ H Q) (hq : ∀ i : Int, Q (.int i) H) : te σ H Q := h hq
theorem SameBut.free {p x : Addr} {H H' : Hp} (a : SameBut p H H') (hp : ∃ xs, H p = some (.lst xs)) (hq : ∃ xs, H' p = some (.lst xs)) (h : H' x = none) : H x = none := by
  cases e : H x with
  | none => rfl
  | some o =>
    by_cases n : x = p
    · obtain ⟨xs, ex⟩ := hq
      rw [n, ex] at h
      cases h
    · rw [a x o e n] at h
      cases h
/-! ### the law's own fractions -/
/-- a pair of ints at r -/
structure Pr (H : Hp) (r : Addr) (t b : Int) (n : Nat) : Prop where
  at_ : H r = some (.tup [.int t, .int b])
  lt : t.natAbs < 2 ^ n
  pos : 0 < b
  lb : b.natAbs < 2 ^ n
theorem Pr.but {p r : Addr} {H H' : Hp} {t b : Int} {n : Nat} (h : Pr H r t b n) (s : SameBut p H H') (hp : ∃ xs, H p = some (.lst xs)) : Pr H' r t b n := ⟨tup_but h.at_ s hp, h.lt, h.pos, h.lb⟩
theorem Pr.same {r : Addr} {H H' : Hp} {t b : Int} {n : Nat} (h : Pr H r t b n) (s : Same H H') : Pr H' r t b n := ⟨s _ _ h.at_, h.lt, h.pos, h.lb⟩
theorem Pr.bd {r : Addr} {H : Hp} {t b : Int} {n : Nat} (h : Pr H r t b n) : Bd n (Rat.divInt t b) := Bd.mk' (Int.ne_of_gt h.pos) h.lt h.lb
def BI (n : Nat) (v : V) : Prop := ∃ t : Int, v = .int t ∧ t.natAbs < 2 ^ n
def BP (n : Nat) (v : V) : Prop := ∃ t : Int, v = .int t ∧ 0 < t ∧ t.natAbs < 2 ^ n
/-! ### one turn of the law -/
theorem same_mut {H0 H : Hp} {D : Addr} {o : HO} (s : Same H0 H) (h : H0 D = none) : Same H0 (upd H D o) := fun b u e => by
  rw [upd_ne (ne_of_none e h)]
  exact s b u e
theorem Num.upl {C D a : Addr} {H : Hp} {q : Rat} {xs : List V} {o : HO} (h : Num C H a q) (hD : H D = some (.lst xs)) : Num C (upd H D o) a q := h.but but_upd ⟨_, hD⟩
theorem memq {α : Type} {xs : List α} {i : Nat} {v : α} {R : α → Prop} (h : xs[i]? = some v) (hR : ∀ x ∈ xs, R x) : R v := hR v (List.mem_of_getElem? h)
theorem yes_of {σ : L2.St} {H : Hp} {Q : Bool → Hp → Prop} (h : Q true H) : tYes σ H Q := h
theorem get_nil {R : Prop} {j : Nat} {a : Addr} (h : ([] : List Addr)[j]? = some a) : R := by simp at h
theorem get_snoc {α : Type} {xs : List α} {y v : α} {j : Nat} (h : (xs ++ [y])[j]? = some v) : xs[j]? = some v ∨ (j = xs.length ∧ v = y) := by
  by_cases hj : j < xs.length
  · rw [List.getElem?_append_left hj] at h
    exact .inl h
  · rw [List.getElem?_append_right (by omega)] at h
    have : j - xs.length = 0 := by
      rcases Nat.eq_zero_or_pos (j - xs.length) with e | e
      · exact e
      · rw [List.getElem?_eq_none (by simpa using (show 1 ≤ j - xs.length from e))] at h
        cases h
    rw [this] at h
    exact .inr ⟨by omega, (Option.some.inj h).symm⟩
theorem get_map {xs : List Addr} {i : Nat} {v : V} (h : (xs.map V.ref)[i]? = some v) : ∃ a, xs[i]? = some a ∧ v = .ref a := by
  rw [List.getElem?_map] at h
  cases e : xs[i]? with
  | none => rw [e] at h; cases h
  | some a => rw [e] at h; exact ⟨a, rfl, (Option.some.inj h).symm⟩
theorem iteT' {c : Bool} {A B : Prop} (hc : c = true) (h : A) : if c = true then A else B := by
  rw [if_pos hc]
  exact h
theorem iteF' {c : Bool} {A B : Prop} (hc : c = false) (h : B) : if c = true then A else B := by
  rw [hc, if_neg Bool.false_ne_true]
  exact h
/-! ### Line -/
def lf (p q : Addr) : List (Str × V) := [("own_base", .ref p), ("own_slope", .ref q)]
theorem lf_put (p q : Addr) : putF "own_slope" (.ref q) (putF "own_base" (.ref p) []) = lf p q := by
  show (if ("own_base" : Str) = "own_slope" then [(("own_slope" : Str), V.ref q)] else (("own_base" : Str), V.ref p) :: putF "own_slope" (.ref q) []) = lf p q
  rw [if_neg (by decide +kernel)]
  rfl
theorem lf_base (p q : Addr) : (lf p q).lookup ("own_base" : Str) = some (.ref p) := by simp [lf, List.lookup]
theorem lf_slope (p q : Addr) : (lf p q).lookup ("own_slope" : Str) = some (.ref q) := by
  have : (("own_slope" : Str) == ("own_base" : Str)) = false := by decide +kernel
  simp [lf, List.lookup, this]
theorem lf_no (p q : Addr) {m : Str} (h1 : (m == ("own_base" : Str)) = false) (h2 : (m == ("own_slope" : Str)) = false) : (lf p q).lookup m = none := by simp [lf, List.lookup, h1, h2]
/-- a line at a: the numbers b and s at p and q -/
structure Lin (A : Ad) (H : Hp) (a : Addr) (b s : Rat) : Prop where
  ex : ∃ dx p q, H a = some (.ins A.c_Line dx (lf p q)) ∧ Num A.c_Number H p b ∧ Num A.c_Number H q s
theorem Lin.mono {A : Ad} {H H' : Hp} {a : Addr} {b t : Rat} (h : Lin A H a b t) (s : Same H H') : Lin A H' a b t := by
  obtain ⟨dx, p, q, e, h1, h2⟩ := h.ex
  exact ⟨dx, p, q, s _ _ e, h1.mono s, h2.mono s⟩
section
variable {P : Program} {w : World} {K : PySem.W.Frag} {mg : Str → Option Value} {base : Heap} {A : Ad}
def spLineI (C : Addr) : Sp := fun vs H Q _ => ∃ (o dx p q : Addr), vs = [.ref o, .ref p, .ref q] ∧ H o = some (.ins C dx []) ∧ Q .non (upd H o (.ins C dx (lf p q)))
theorem ok_Line_init (T : Txt K mg A) : FnOk P w K mg base CX0 1 A.f_Line_init A.d_Line_init ["self", "base", "slope"] (spLineI A.c_Line) := by
  refine T.F_Line_init.ok sc_Line_init (fun vs H Q E h => ?_) (fun cdv B outer s H vs Q E hr h => ?_)
  · obtain ⟨o, dx, p, q, rfl, _⟩ := h
    rfl
  · obtain ⟨o, dx, p, q, rfl, hp, k⟩ := h
    refine ⟨_, pss_cons (ps_fld (pv 0) (pv 1) rfl) (pss_one (ps_fld (pv 0) (pv 2) rfl)), ?_⟩
    refine ⟨_, rfl, _, rfl, o, A.c_Line, dx, [], rfl, hp, T.cl_Line, T.n_Line_own_base, (by decide), ?_⟩
    refine ⟨_, rfl, _, rfl, o, A.c_Line, dx, _, rfl, upd_same, T.cl_Line, T.n_Line_own_slope, (by show 1 < 1000; decide), ?_⟩
    dsimp only
    rw [upd_upd, lf_put]
    exact k
/-- Line(p, q) gives a new line -/
theorem made_lin {H : Hp} {x dx p q : Addr} {b t : Rat} (hp : Num A.c_Number H p b) (hq : Num A.c_Number H q t) (nx : H x = none) (ndx : H dx = none) :
    Same H (upd (upd (upd H dx (.own x)) x (.ins A.c_Line dx [])) x (.ins A.c_Line dx (lf p q))) ∧ Lin A (upd (upd (upd H dx (.own x)) x (.ins A.c_Line dx [])) x (.ins A.c_Line dx (lf p q))) x b t :=
  ⟨same_made nx ndx, ⟨dx, p, q, upd_same, hp.mono (same_made nx ndx), hq.mono (same_made nx ndx)⟩⟩
end
/-! ### whole(n) -/
section
variable {P : Program} {w : World} {K : PySem.W.Frag} {mg : Str → Option Value} {base : Heap} {A : Ad}
def spWhole (A : Ad) : Sp := fun vs H Q _ => ∃ n : Int, vs = [.int n] ∧ ∀ x H', Same H H' → H x = none → Num A.c_Number H' x (Rat.divInt n 1) → Q (.ref x) H'
theorem ok_whole (T : Txt K mg A) : FnOk P w K mg base CX0 4 A.f_whole A.d_whole ["count"] (spWhole A) := by
  refine T.F_whole.ok sc_whole (fun vs H Q E h => ?_) (fun cdv B outer s H vs Q E hr h => ?_)
  · obtain ⟨n, rfl, _⟩ := h
    rfl
  · obtain ⟨n, rfl, k⟩ := h
    have hr3 : Room 3 _ := hr.mono (by decide)
    obtain ⟨_, r1Number, b1Number⟩ := b1_Number T
    refine ⟨_, (pss_one (ps_ret (pe_make T.M_Number (ok_Number_init T) hr3 rfl T.g_Number b1Number r1Number pass0 (pa_cons (pv 0) pa_nil)))), ?_⟩
    refine ⟨_, rfl, ?_⟩
    intro x dx nx ndx nex
    refine ⟨x, dx, n, 1, rfl, by decide, up_lt (n := 9000) (show (1 : Int).natAbs < 2 ^ 1 by decide) (by decide), upd_same, rfl, ?_⟩
    exact k x _ (made_num (C := A.c_Number) (Rat.divInt n 1) nx ndx).1 nx (made_num (C := A.c_Number) (Rat.divInt n 1) nx ndx).2
end
/-! ### Stretch -/
def sf (lo hi mi : Addr) (b1 b2 : Bool) : List (Str × V) := [("own_low", .ref lo), ("own_high", .ref hi), ("includes_low", .bl b1), ("includes_high", .bl b2), ("own_middle", .ref mi)]
theorem sf_own_low (lo hi mi : Addr) (b1 b2 : Bool) : (sf lo hi mi b1 b2).lookup ("own_low" : Str) = some (.ref lo) := by
  simp [sf, List.lookup]
theorem sf_own_high (lo hi mi : Addr) (b1 b2 : Bool) : (sf lo hi mi b1 b2).lookup ("own_high" : Str) = some (.ref hi) := by
  have h0 : (("own_high" : Str) == ("own_low" : Str)) = false := by decide +kernel
  simp [sf, List.lookup, h0]
theorem sf_includes_low (lo hi mi : Addr) (b1 b2 : Bool) : (sf lo hi mi b1 b2).lookup ("includes_low" : Str) = some (.bl b1) := by
  have h0 : (("includes_low" : Str) == ("own_low" : Str)) = false := by decide +kernel
  have h1 : (("includes_low" : Str) == ("own_high" : Str)) = false := by decide +kernel
  simp [sf, List.lookup, h0, h1]
theorem sf_includes_high (lo hi mi : Addr) (b1 b2 : Bool) : (sf lo hi mi b1 b2).lookup ("includes_high" : Str) = some (.bl b2) := by
  have h0 : (("includes_high" : Str) == ("own_low" : Str)) = false := by decide +kernel
  have h1 : (("includes_high" : Str) == ("own_high" : Str)) = false := by decide +kernel
  have h2 : (("includes_high" : Str) == ("includes_low" : Str)) = false := by decide +kernel
  simp [sf, List.lookup, h0, h1, h2]
theorem sf_own_middle (lo hi mi : Addr) (b1 b2 : Bool) : (sf lo hi mi b1 b2).lookup ("own_middle" : Str) = some (.ref mi) := by
  have h0 : (("own_middle" : Str) == ("own_low" : Str)) = false := by decide +kernel
  have h1 : (("own_middle" : Str) == ("own_high" : Str)) = false := by decide +kernel
  have h2 : (("own_middle" : Str) == ("includes_low" : Str)) = false := by decide +kernel
  have h3 : (("own_middle" : Str) == ("includes_high" : Str)) = false := by decide +kernel
  simp [sf, List.lookup, h0, h1, h2, h3]
theorem sf_no (lo hi mi : Addr) (b1 b2 : Bool) {m : Str} (h : ∀ f ∈ (["own_low", "own_high", "includes_low", "includes_high", "own_middle"] : List Str), (m == f) = false) : (sf lo hi mi b1 b2).lookup m = none := by
  have h0 := h "own_low" (by simp)
  have h1 := h "own_high" (by simp)
  have h2 := h "includes_low" (by simp)
  have h3 := h "includes_high" (by simp)
  have h4 := h "own_middle" (by simp)
  simp [sf, List.lookup, h0, h1, h2, h3, h4]
theorem sf_put (lo hi mi : Addr) (b1 b2 : Bool) : (putF "own_middle" (.ref mi) (putF "includes_high" (.bl b2) (putF "includes_low" (.bl b1) (putF "own_high" (.ref hi) (putF "own_low" (.ref lo) []))))) = sf lo hi mi b1 b2 := by
  simp only [putF]
  repeat rw [if_neg (by decide +kernel)]
  rfl
/-- a stretch at a: its ends p and q, whether they belong to it -/
def Strh (A : Ad) (H : Hp) (a : Addr) (p q : Rat) (b1 b2 : Bool) : Prop := ∃ dx lo hi mi, H a = some (.ins A.c_Stretch dx (sf lo hi mi b1 b2)) ∧ Num A.c_Number H lo p ∧ Num A.c_Number H hi q ∧ Num A.c_Number H mi ((p + q) / 2)
theorem Strh.mono {A : Ad} {H H' : Hp} {a : Addr} {p q : Rat} {b1 b2 : Bool} (h : Strh A H a p q b1 b2) (s : Same H H') : Strh A H' a p q b1 b2 := by
  obtain ⟨dx, lo, hi, mi, e, h1, h2, h3⟩ := h
  exact ⟨dx, lo, hi, mi, s _ _ e, h1.mono s, h2.mono s, h3.mono s⟩
theorem num_ne_ins {C : Addr} {H : Hp} {a o D dx : Addr} {q : Rat} (h : Num C H a q) (e : H o = some (.ins D dx [])) : a ≠ o := fun z => by
  obtain ⟨dy, h⟩ := h
  rw [z, e] at h
  injection h with h
  injection h with _ _ h
  cases h
theorem Num.upn {C : Addr} {H : Hp} {a o : Addr} {q : Rat} {u : HO} (h : Num C H a q) (n : a ≠ o) : Num C (upd H o u) a q := by
  obtain ⟨dy, e⟩ := h
  exact ⟨dy, by rw [upd_ne n]; exact e⟩
theorem half_eq (p q : Rat) : (p + q) / Rat.divInt 2 1 = (p + q) / 2 := by
  rw [show Rat.divInt 2 1 = 2 by decide]
section
variable {P : Program} {w : World} {K : PySem.W.Frag} {mg : Str → Option Value} {base : Heap} {A : Ad}
def spStrI (A : Ad) : Sp := fun vs H Q _ => ∃ (o dx lo hi : Addr) (p q : Rat) (b1 b2 : Bool), vs = [.ref o, .ref lo, .ref hi, .bl b1, .bl b2] ∧ Num A.c_Number H lo p ∧ Num A.c_Number H hi q ∧ Bd 1000 p ∧ Bd 1000 q ∧ (p < q ∨ (p = q ∧ b1 = true ∧ b2 = true)) ∧
  H o = some (.ins A.c_Stretch dx []) ∧ ∀ mi H', SameBut o H H' → H' o = some (.ins A.c_Stretch dx (sf lo hi mi b1 b2)) → Num A.c_Number H' mi ((p + q) / 2) → Q .non H'
theorem ok_Stretch_init (T : Txt K mg A) : FnOk P w K mg base CX0 6 A.f_Stretch_init A.d_Stretch_init ["self", "low", "high", "has_low", "has_high"] (spStrI A) := by
  refine T.F_Stretch_init.ok sc_Stretch_init (fun vs H Q E h => ?_) (fun cdv B outer s H vs Q E hr h => ?_)
  · obtain ⟨o, dx, lo, hi, p, q, b1, b2, rfl, _⟩ := h
    rfl
  · obtain ⟨o, dx, lo, hi, p, q, b1, b2, rfl, hp, hq, bp, bq, good, ho, k⟩ := h
    have nlo := num_ne_ins hp ho
    have nhi := num_ne_ins hq ho
    have hr1 : Room 1 _ := hr.mono (by decide)
    have hr4 : Room 4 _ := hr.mono (by decide)
    refine ⟨_, (pss_cons (ps_if (PW.pt (pw_or (pt_not (pt_val (pe_callB call_isi (by rfl) T.z_isinstance (by decide +kernel) (pa_cons (pv 1) (pa_cons (pe_glob (v := .ref A.c_Number) (by rfl) T.g_Number rfl) pa_nil))))) (pw_or1 (pt_not (pt_val (pe_callB call_isi (by rfl) T.z_isinstance (by decide +kernel) (pa_cons (pv 2) (pa_cons (pe_glob (v := .ref A.c_Number) (by rfl) T.g_Number rfl) pa_nil)))))))) (pss_one ps_never) pss_nil)
      (pss_cons (ps_if (PW.pt (pw_or (pt_not (pt_val (pe_callB call_isi (by rfl) T.z_isinstance (by decide +kernel) (pa_cons (pv 3) (pa_cons (pe_bltn (v := .ty "bool") (by rfl) T.z_bool (by decide +kernel) rfl) pa_nil))))) (pw_or1 (pt_not (pt_val (pe_callB call_isi (by rfl) T.z_isinstance (by decide +kernel) (pa_cons (pv 4) (pa_cons (pe_bltn (v := .ty "bool") (by rfl) T.z_bool (by decide +kernel) rfl) pa_nil)))))))) (pss_one ps_never) pss_nil)
      (Evl.pss_cut (ps_if (PW.pt (pw_or (pt_val (pe_meth (pv 2) T.cl_Number T.m_Number_is_less (ok_Number_is_less T) hr1 T.b_Number_is_less .nil pass0 (pa_cons (pv 1) pa_nil))) (pw_or1 (PW.pt (pw_and (pt_cmpR (opOwnEq K (ok_Number_eq T) T.b_Number_eq T.m_Number_eq.at_ T.m_Number_eq.fn hr1 pass0) (pv 1) (pv 2) (nomark _)) (pw_and1 (pt_not (PW.pt (pw_and (pt_val (pv 3)) (pw_and1 (pt_val (pv 4)))))))))))) (pss_one ps_never) pss_nil)
      (pss_cons (ps_fld (pv 0) (pv 1) rfl)
      (pss_cons (ps_fld (pv 0) (pv 2) rfl)
      (pss_cons (ps_fld (pv 0) (pv 3) rfl)
      (pss_cons (ps_fld (pv 0) (pv 4) rfl)
      (pss_one (ps_fld (pv 0) (pe_meth (pe_op (op_own2 (ok_Number_add T) T.b_Number_add T.m_Number_add.at_ T.m_Number_add.fn T.sf_Number hr4 pass0) (pv 1) (pv 2)) T.cl_Number T.m_Number_divided_by (ok_Number_divided_by T) hr4 T.b_Number_divided_by .nil pass0 (pa_cons (pe_call (ok_whole T) hr4 rfl T.g_whole T.F_whole.kp T.b_whole .nil pass0 (pa_cons pe_int pa_nil)) pa_nil)) rfl))))))))), ?_⟩
    refine ⟨_, rfl, _, _, _, _, true, rfl, .own _, .base (.ins hp.choose_spec T.cl_Number T.ca_Number T.cn T.ct T.cm_Number), T.kit_NumNum, true, rfl, ?_⟩
    refine iteF' rfl ?_
    refine ⟨_, rfl, _, _, _, _, true, rfl, .own _, .base (.ins hq.choose_spec T.cl_Number T.ca_Number T.cn T.ct T.cm_Number), T.kit_NumNum, true, rfl, ?_⟩
    refine iteF' rfl ?_
    refine ⟨_, rfl, _, _, _, _, true, rfl, .ty "bool", .base (.bl _), T.kit_blbl, true, rfl, ?_⟩
    refine iteF' rfl ?_
    refine ⟨_, rfl, _, _, _, _, true, rfl, .ty "bool", .base (.bl _), T.kit_blbl, true, rfl, ?_⟩
    refine iteF' rfl ?_
    refine ⟨fun σ' H' => σ' = [some (.ref o), some (.ref lo), some (.ref hi), some (.bl b1), some (.bl b2)] ∧ H = H', ?_, ?_⟩
    · refine ⟨_, rfl, hi, _, _, rfl, hq.choose_spec, nf_no _ (by decide +kernel) (by decide +kernel), _, rfl, hi, lo, q, p, rfl, hq, hp, bq.mono (by decide), bp.mono (by decide), _, rfl, ?_⟩
      have nlt : decide (q < p) = false := decide_eq_false (by rcases good with h | ⟨h, _⟩ <;> grind)
      refine iteF' nlt ?_
      refine ⟨_, rfl, _, rfl, lo, _, _, _, rfl, hp.choose_spec, .base (.ins hq.choose_spec T.cl_Number T.ca_Number T.cn T.ct T.cm_Number), (by simp [PySem.W.notFirst]), lo, hi, p, q, rfl, hp, hq, _, rfl, ?_⟩
      refine ite2 (fun h => ?_) (fun h => ?_)
      · have h := of_decide_eq_true h
        rcases good with g | ⟨_, rfl, rfl⟩
        · grind
        · refine ⟨_, rfl, _, rfl, ?_⟩
          refine iteT' rfl ?_
          refine ⟨_, rfl, _, rfl, ?_⟩
          exact iteF' rfl ⟨rfl, rfl⟩
      · exact iteF' rfl ⟨rfl, rfl⟩
    rintro σ' H' ⟨rfl, rfl⟩
    refine ⟨_, rfl, _, rfl, o, A.c_Stretch, dx, [], rfl, ho, T.cl_Stretch, T.n_Stretch_own_low, (by decide), ?_⟩
    dsimp only
    refine ⟨_, rfl, _, rfl, o, A.c_Stretch, dx, _, rfl, upd_same, T.cl_Stretch, T.n_Stretch_own_high, (by show 1 < 1000; decide), ?_⟩
    dsimp only
    rw [upd_upd]
    refine ⟨_, rfl, _, rfl, o, A.c_Stretch, dx, _, rfl, upd_same, T.cl_Stretch, T.n_Stretch_includes_low, (by show _ < 1000; simp only [putF]; rw [if_neg (by decide +kernel)]; show 2 < 1000; decide), ?_⟩
    dsimp only
    rw [upd_upd]
    refine ⟨_, rfl, _, rfl, o, A.c_Stretch, dx, _, rfl, upd_same, T.cl_Stretch, T.n_Stretch_includes_high, (by simp only [putF]; repeat rw [if_neg (by decide +kernel)]; show 3 < 1000; decide), ?_⟩
    dsimp only
    rw [upd_upd]
    generalize hf4 : putF "includes_high" (V.bl b2) (putF "includes_low" (V.bl b1) (putF "own_high" (V.ref hi) (putF "own_low" (V.ref lo) []))) = f4
    have l4 : f4.length < 1000 := by
      rw [← hf4]
      simp only [putF]
      repeat rw [if_neg (by decide +kernel)]
      show 4 < 1000
      decide
    have sb := but_upd (p := o) (H := H) (o := .ins A.c_Stretch dx f4)
    have hp1 := hp.upn (u := .ins A.c_Stretch dx f4) nlo
    have hq1 := hq.upn (u := .ins A.c_Stretch dx f4) nhi
    have eo : (upd H o (.ins A.c_Stretch dx f4)) o = some (.ins A.c_Stretch dx f4) := upd_same
    generalize upd H o (.ins A.c_Stretch dx f4) = H1 at *
    refine ⟨_, rfl, _, rfl, lo, _, _, hi, _, _, rfl, rfl, hp1.choose_spec, hq1.choose_spec, lo, hi, p, q, rfl, hp1, hq1, bp.mono (by decide), bq.mono (by decide), fun x H2 s2 n2 h2 => ?_⟩
    refine ⟨x, _, _, rfl, h2.choose_spec, nf_no _ (by decide +kernel) (by decide +kernel), 2, rfl, fun y H3 s3 n3 h3 => ?_⟩
    have b2' : Bd 2 (Rat.divInt 2 1) := ⟨by decide, by decide⟩
    refine ⟨x, y, p + q, Rat.divInt 2 1, rfl, h2.mono s3, h3, (bp.add bq).mono (by decide), b2'.mono (by decide), by decide, fun z H4 s4 n4 h4 => ?_⟩
    have s14 := (s2.trans s3).trans s4
    refine ⟨_, rfl, o, A.c_Stretch, dx, f4, rfl, s14 _ _ eo, T.cl_Stretch, T.n_Stretch_own_middle, l4, ?_⟩
    rw [half_eq] at h4
    have nz : z ≠ o := fun e => by
      rw [e] at n4
      have q4 := (s2.trans s3) _ _ eo
      rw [n4] at q4
      cases q4
    refine k z _ ((sb.same s14).trans but_upd) ?_ (h4.upn nz)
    rw [← hf4, sf_put, upd_same]
/-- a new stretch -/
theorem made_str {H H' : Hp} {x dx lo hi mi : Addr} {p q : Rat} {b1 b2 : Bool} (nx : H x = none) (ndx : H dx = none) (sb : SameBut x (upd (upd H dx (.own x)) x (.ins A.c_Stretch dx [])) H') (e : H' x = some (.ins A.c_Stretch dx (sf lo hi mi b1 b2))) (hp : Num A.c_Number H lo p) (hq : Num A.c_Number H hi q) (hm : Num A.c_Number H' mi ((p + q) / 2)) :
    Same H H' ∧ Strh A H' x p q b1 b2 := by
  have s : Same H H' := fun b o h => sb b o (by rw [upd_ne (ne_of_none h nx), upd_ne (ne_of_none h ndx)]; exact h) (ne_of_none h nx)
  exact ⟨s, dx, lo, hi, mi, e, hp.mono s, hq.mono s, hm⟩
end
/-! ### texts of numbers, lines, stretches -/
theorem pow_big : 2 ^ 1900 ≤ 10 ^ 1900 := Nat.pow_le_pow_left (by decide) 1900
theorem num_len {q : Rat} (b : Bd 1900 q) : (TL.numL q.num.natAbs).length ≤ 1900 ∧ (intL q.num).length ≤ 1901 ∧ (TL.numL q.den).length ≤ 1900 := by
  have h1 := TL.numL_len (k := 1900) (by decide) (Nat.lt_of_lt_of_le b.1 pow_big)
  have h2 := TL.numL_len (k := 1900) (n := q.den) (by decide) (Nat.lt_of_lt_of_le (by have := b.den'; simpa using this) pow_big)
  refine ⟨h1, ?_, h2⟩
  unfold intL
  split
  · simp
    exact h1
  · omega
theorem numT_le {q : Rat} (b : Bd 1900 q) : (numT q).length ≤ 4000 := by
  obtain ⟨_, h1, h2⟩ := num_len b
  unfold numT
  rw [List.length_append]
  split
  · simp
    omega
  · simp
    omega
theorem absR_bd {n : Nat} {q : Rat} (b : Bd n q) : Bd n (absR q) := Bd.rabs b
theorem S_app (a b : List Nat) : S a ++ S b = S (a ++ b) := SX.S_cat a b
theorem numT_one {q : Rat} (h : q.den = 1) : numT q = intL q.num := by
  unfold numT
  rw [if_pos h, List.append_nil]
theorem numT_two {q : Rat} (h : q.den ≠ 1) : Str.empty ++ S (intL q.num) ++ "/" ++ S (TL.numL q.den) = S (numT q) := by
  have e1 : Str.empty ++ S (intL q.num) = S (intL q.num) := S_app [] (intL q.num)
  have e2 : ("/" : Str) = S [47] := by decide +kernel
  rw [e1, e2, S_app, S_app]
  unfold numT
  rw [if_neg h, List.append_assoc]
  rfl
theorem showLine_le {b t : Rat} (h1 : Bd 1900 b) (h2 : Bd 1900 t) : (showLine b t).length ≤ 8100 := by
  have a1 := numT_le h1
  have a2 := numT_le h2
  have a3 := numT_le (absR_bd h2)
  unfold showLine
  split
  · omega
  · split
    · simp
      omega
    · simp
      omega
theorem den_nat {q : Rat} : Str.ofString (toString (q.den : Int)) = S (TL.numL q.den) := by
  rw [int_S, intL_nat]
theorem len_S (l : List Nat) : (S l).length = l.length := S_len l
section
variable {P : Program} {w : World} {K : PySem.W.Frag} {mg : Str → Option Value} {base : Heap} {A : Ad}
def spShowN (A : Ad) : Sp := fun vs H Q _ => ∃ (a : Addr) (q : Rat), vs = [.ref a] ∧ Num A.c_Number H a q ∧ Bd 1900 q ∧ Q (.str (S (numT q))) H
theorem ok_show_number (T : Txt K mg A) : FnOk P w K mg base CX0 3 A.f_show_number A.d_show_number ["number"] (spShowN A) := by
  refine T.F_show_number.ok sc_show_number (fun vs H Q E h => ?_) (fun cdv B outer s H vs Q E hr h => ?_)
  · obtain ⟨a, q, rfl, _⟩ := h
    rfl
  · obtain ⟨a, q, rfl, ⟨dx, e⟩, b, k⟩ := h
    have hr2 : Room 2 _ := hr.mono (by decide)
    refine ⟨_, (pss_one (ps_ret (pe_ifExp (pt_cmpR op_eq (pe_prop (pv 0) T.cl_Number T.P_Number_bottom (ok_Number_bottom T) hr2 T.b_Number_bottom .nil pass0 rfl) pe_int (nomark _)) (pe_callTy call_str_int (by rfl) T.z_str (by decide +kernel) (pa_cons (pe_prop (pv 0) T.cl_Number T.P_Number_top (ok_Number_top T) hr2 T.b_Number_top .nil pass0 rfl) pa_nil)) (pe_joined (PJ.cons (pe_fmt (pe_prop (pv 0) T.cl_Number T.P_Number_top (ok_Number_top T) hr2 T.b_Number_top .nil pass0 rfl)) (PJ.cons (pe_fmt (C8.pe_gc (by rfl) T.g_STROKE)) (PJ.cons (pe_fmt (pe_prop (pv 0) T.cl_Number T.P_Number_bottom (ok_Number_bottom T) hr2 T.b_Number_bottom .nil pass0 rfl)) PJ.nil))))))), ?_⟩
    obtain ⟨l0, l1, l2⟩ := num_len b
    have lg1 : q.num.natAbs.log2 < 1920 := log2_lt (by decide) (Nat.lt_of_lt_of_le b.1 (Nat.pow_le_pow_right (by decide) (by decide)))
    have lg2 : ((q.den : Int)).natAbs.log2 < 1920 := log2_lt (by decide) (Nat.lt_of_lt_of_le b.den' (Nat.pow_le_pow_right (by decide) (by decide)))
    refine ⟨_, rfl, a, dx, _, rfl, e, a, dx, _, _, rfl, e, nf_bot q, rfl, _, rfl, ?_⟩
    by_cases hd : q.den = 1
    · refine iteT' (dint_eq (by rw [hd]; rfl)) ?_
      refine ⟨_, rfl, a, dx, _, rfl, e, a, dx, _, _, rfl, e, nf_top q, _, rfl, lg1, ?_⟩
      rw [numT_one hd, ← int_S] at k
      exact k
    · refine iteF' (dint_ne (by omega)) ?_
      refine ⟨_, rfl, a, dx, _, rfl, e, a, dx, _, _, rfl, e, nf_top q, .inr ⟨_, rfl, lg1, _, rfl, ?_, .inl ⟨_, rfl, by decide, _, rfl, ?_, _, rfl, a, dx, _, rfl, e, a, dx, _, _, rfl, e, nf_bot q, .inr ⟨_, rfl, lg2, _, rfl, ?_, ?_⟩⟩⟩⟩
      · rw [int_S, show Str.empty ++ S (intL q.num) = S (intL q.num) from S_app [] _, len_S]
        exact Nat.le_trans l1 (by decide)
      · rw [int_S, show Str.empty ++ S (intL q.num) = S (intL q.num) from S_app [] _, show ("/" : Str) = S [47] by decide +kernel, S_app, len_S, List.length_append, sizeLine_eq]
        simp
        omega
      · rw [int_S, den_nat, numT_two hd, len_S]
        exact Nat.le_trans (numT_le b) (by decide)
      · show Q (.str (Str.empty ++ Str.ofString (toString q.num) ++ "/" ++ Str.ofString (toString (q.den : Int)))) H
        rw [int_S, den_nat, numT_two hd]
        exact k
def spShowL (A : Ad) : Sp := fun vs H Q _ => ∃ (l : Addr) (b t : Rat), vs = [.ref l] ∧ Lin A H l b t ∧ Bd 1900 b ∧ Bd 1900 t ∧ ∀ H', Same H H' → Q (.str (S (showLine b t))) H'
theorem ok_Line_base (T : Txt K mg A) : FnOk P w K mg base CX0 1 A.f_Line_base A.d_Line_base ["self"] (getSp A.c_Line "own_base") := by
  refine T.F_Line_base.ok sc_Line_base (fun vs H Q E h => ?_) (fun cdv B outer s H vs Q E hr h => ?_)
  · obtain ⟨a, dx, fs, v, rfl, _⟩ := h
    rfl
  · obtain ⟨a, dx, fs, v, rfl, e, l, k⟩ := h
    exact ⟨_, pss_one (ps_ret (pe_fld (pv 0) rfl)), _, rfl, a, _, dx, fs, v, rfl, e, T.cl_Line, T.n_Line_own_base, l, k⟩
theorem ok_Line_slope (T : Txt K mg A) : FnOk P w K mg base CX0 1 A.f_Line_slope A.d_Line_slope ["self"] (getSp A.c_Line "own_slope") := by
  refine T.F_Line_slope.ok sc_Line_slope (fun vs H Q E h => ?_) (fun cdv B outer s H vs Q E hr h => ?_)
  · obtain ⟨a, dx, fs, v, rfl, _⟩ := h
    rfl
  · obtain ⟨a, dx, fs, v, rfl, e, l, k⟩ := h
    exact ⟨_, pss_one (ps_ret (pe_fld (pv 0) rfl)), _, rfl, a, _, dx, fs, v, rfl, e, T.cl_Line, T.n_Line_own_slope, l, k⟩
theorem ok_show_line (T : Txt K mg A) : FnOk P w K mg base CX0 6 A.f_show_line A.d_show_line ["line"] (spShowL A) := by
  refine T.F_show_line.ok sc_show_line (fun vs H Q E h => ?_) (fun cdv B outer s H vs Q E hr h => ?_)
  · obtain ⟨l, b, t, rfl, _⟩ := h
    rfl
  · obtain ⟨l, b, t, rfl, hl, bb, bt, k⟩ := h
    have hr1 : Room 1 _ := hr.mono (by decide)
    have hr2 : Room 2 _ := hr.mono (by decide)
    have hr3 : Room 3 _ := hr.mono (by decide)
    have hr4 : Room 4 _ := hr.mono (by decide)
    have hr5 : Room 5 _ := hr.mono (by decide)
    refine ⟨_, (pss_cons (ps_if (pt_cmpR (opOwnEq K (ok_Number_eq T) T.b_Number_eq T.m_Number_eq.at_ T.m_Number_eq.fn hr1 pass0) (pe_prop (pv 0) T.cl_Line T.P_Line_slope (ok_Line_slope T) hr2 T.b_Line_slope .nil pass0 rfl) (pe_call (ok_whole T) hr4 rfl T.g_whole T.F_whole.kp T.b_whole .nil pass0 (pa_cons pe_int pa_nil)) (nomark _)) (pss_one (ps_ret (pe_call (ok_show_number T) hr3 rfl T.g_show_number T.F_show_number.kp T.b_show_number .nil pass0 (pa_cons (pe_prop (pv 0) T.cl_Line T.P_Line_base (ok_Line_base T) hr2 T.b_Line_base .nil pass0 rfl) pa_nil)))) pss_nil)
      (pss_cons (ps_if (pt_cmpR (opOwnEq K (ok_Number_eq T) T.b_Number_eq T.m_Number_eq.at_ T.m_Number_eq.fn hr1 pass0) (pe_prop (pv 0) T.cl_Line T.P_Line_base (ok_Line_base T) hr2 T.b_Line_base .nil pass0 rfl) (pe_call (ok_whole T) hr4 rfl T.g_whole T.F_whole.kp T.b_whole .nil pass0 (pa_cons pe_int pa_nil)) (nomark _)) (pss_one (ps_ret (pe_op op_add_str (pe_call (ok_show_number T) hr3 rfl T.g_show_number T.F_show_number.kp T.b_show_number .nil pass0 (pa_cons (pe_prop (pv 0) T.cl_Line T.P_Line_slope (ok_Line_slope T) hr2 T.b_Line_slope .nil pass0 rfl) pa_nil)) (C8.pe_gc (by rfl) T.g_OF_SPEED)))) pss_nil)
      (Evl.pss_cut (ps_set (i := 1) sc_show_line.nd rfl (Or.inl rfl) (pe_ifExp (pt_val (pe_meth (pe_prop (pv 0) T.cl_Line T.P_Line_slope (ok_Line_slope T) hr2 T.b_Line_slope .nil pass0 rfl) T.cl_Number T.m_Number_is_less (ok_Number_is_less T) hr1 T.b_Number_is_less .nil pass0 (pa_cons (pe_call (ok_whole T) hr4 rfl T.g_whole T.F_whole.kp T.b_whole .nil pass0 (pa_cons pe_int pa_nil)) pa_nil))) (C8.pe_gc (by rfl) T.g_MINUS) (C8.pe_gc (by rfl) T.g_PLUS)))
      (pss_one (ps_ret (pe_joined (PJ.cons (pe_fmt (pe_call (ok_show_number T) hr3 rfl T.g_show_number T.F_show_number.kp T.b_show_number .nil pass0 (pa_cons (pe_prop (pv 0) T.cl_Line T.P_Line_base (ok_Line_base T) hr2 T.b_Line_base .nil pass0 rfl) pa_nil))) (PJ.cons pe_str (PJ.cons (pe_fmt (pv 1)) (PJ.cons pe_str (PJ.cons (pe_fmt (pe_call (ok_show_number T) hr3 rfl T.g_show_number T.F_show_number.kp T.b_show_number .nil pass0 (pa_cons (pe_callB (call_ownAbs (ok_Number_abs T) T.b_Number_abs T.m_Number_abs.at_ T.m_Number_abs.fn hr5 pass0) (by rfl) T.z_abs (by decide +kernel) (pa_cons (pe_prop (pv 0) T.cl_Line T.P_Line_slope (ok_Line_slope T) hr2 T.b_Line_slope .nil pass0 rfl) pa_nil)) pa_nil))) (PJ.cons (pe_fmt (C8.pe_gc (by rfl) T.g_OF_SPEED)) PJ.nil)))))))))))), ?_⟩
    obtain ⟨dl, u, v, el, hu, hv⟩ := hl.ex
    have z0 : (Rat.divInt 0 1 : Rat) = 0 := by decide
    have b0 : Bd 8000 (Rat.divInt 0 1) := ⟨by rw [z0]; exact Nat.pow_pos (by decide), by rw [z0]; exact Nat.one_lt_two_pow (by decide)⟩
    refine ⟨_, rfl, l, dl, _, rfl, el, l, dl, _, _, rfl, el, lf_slope u v, 0, rfl, fun x H1 s1 n1 h1 => ?_⟩
    have el := s1 _ _ el
    have hu := hu.mono s1
    have hv := hv.mono s1
    refine ⟨v, _, _, _, rfl, hv.choose_spec, .base (.ins h1.choose_spec T.cl_Number T.ca_Number T.cn T.ct T.cm_Number), (by simp [PySem.W.notFirst]), v, x, _, _, rfl, hv, h1, _, rfl, ?_⟩
    rw [z0]
    by_cases ht : t = 0
    · refine iteT' (decide_eq_true ht) ?_
      refine ⟨_, rfl, l, dl, _, rfl, el, l, dl, _, _, rfl, el, lf_base u v, u, b, rfl, hu, bb, ?_⟩
      have e : showLine b t = numT b := by unfold showLine; rw [if_pos ht]
      rw [← e]
      exact k _ s1
    refine iteF' (decide_eq_false ht) ?_
    refine ⟨_, rfl, l, dl, _, rfl, el, l, dl, _, _, rfl, el, lf_base u v, 0, rfl, fun x2 H2 s2 n2 h2 => ?_⟩
    have el := s2 _ _ el
    have hu := hu.mono s2
    have hv := hv.mono s2
    have s12 := s1.trans s2
    clear s1 s2 h1
    refine ⟨u, _, _, _, rfl, hu.choose_spec, .base (.ins h2.choose_spec T.cl_Number T.ca_Number T.cn T.ct T.cm_Number), (by simp [PySem.W.notFirst]), u, x2, _, _, rfl, hu, h2, _, rfl, ?_⟩
    rw [z0]
    by_cases hb : b = 0
    · refine iteT' (decide_eq_true hb) ?_
      refine ⟨_, rfl, l, dl, _, rfl, el, l, dl, _, _, rfl, el, lf_slope u v, v, t, rfl, hv, bt, _, _, rfl, rfl, ?_, ?_⟩
      · rw [len_S, sizeLine_eq]
        have := numT_le bt
        show (numT t).length + 1 ≤ _
        omega
      · have e : showLine b t = numT t ++ [115] := by unfold showLine; rw [if_neg ht, if_pos hb]
        have k := k _ s12
        rw [e, ← S_app] at k
        exact k
    refine iteF' (decide_eq_false hb) ?_
    refine ⟨fun σ' H' => σ' = [some (.ref l), some (.str (S [if t < 0 then 45 else 43]))] ∧ Same H2 H', ?_, ?_⟩
    · refine ⟨_, rfl, l, dl, _, rfl, el, l, dl, _, _, rfl, el, lf_slope u v, v, _, _, rfl, hv.choose_spec, nf_no _ (by decide +kernel) (by decide +kernel), 0, rfl, fun x3 H3 s3 n3 h3 => ?_⟩
      refine ⟨v, x3, t, _, rfl, hv.mono s3, h3, bt.mono (by decide), b0, _, rfl, ?_⟩
      rw [z0]
      by_cases hn : t < 0
      · refine iteT' (decide_eq_true hn) ?_
        refine ⟨?_, s3⟩
        rw [if_pos hn]
        rfl
      · refine iteF' (decide_eq_false hn) ?_
        refine ⟨?_, s3⟩
        rw [if_neg hn]
        rfl
    rintro σ' H3 ⟨rfl, s3⟩
    have el := s3 _ _ el
    have hu := hu.mono s3
    have hv := hv.mono s3
    have s13 := s12.trans s3
    clear s12 s3 h2
    obtain ⟨g, hg⟩ : ∃ g : Nat, g = (if t < 0 then 45 else 43) := ⟨_, rfl⟩
    have e : showLine b t = numT b ++ ([32, g, 32] ++ (numT (absR t) ++ [115])) := by unfold showLine; rw [if_neg ht, if_neg hb, hg]
    rw [← hg]
    have l1 := numT_le bb
    have l2 := numT_le (absR_bd bt)
    refine ⟨_, rfl, l, dl, _, rfl, el, l, dl, _, _, rfl, el, lf_base u v, u, b, rfl, hu, bb, .inl ⟨_, rfl, ?_, _, rfl, ?_, _, rfl, ?_, _, rfl, .inl ⟨_, rfl, ?_, _, rfl, ?_, _, rfl, ?_, ?_⟩⟩⟩
    · rw [len_S, sizeLine_eq]; omega
    · rw [show Str.empty ++ S (numT b) = S (numT b) from S_app [] _, len_S, sizeLine_eq]; omega
    · rw [show Str.empty ++ S (numT b) = S (numT b) from S_app [] _, show (" " : Str) = S [32] by decide +kernel, S_app, len_S, List.length_append, sizeLine_eq]
      simp
      omega
    · show 1 ≤ sizeLine
      decide
    · rw [show Str.empty ++ S (numT b) = S (numT b) from S_app [] _, show (" " : Str) = S [32] by decide +kernel, S_app, S_app, len_S, List.length_append, List.length_append, sizeLine_eq]
      simp
      omega
    · rw [show Str.empty ++ S (numT b) = S (numT b) from S_app [] _, show (" " : Str) = S [32] by decide +kernel, S_app, S_app, S_app, len_S, List.length_append, List.length_append, List.length_append, sizeLine_eq]
      simp
      omega
    refine ⟨_, rfl, l, dl, _, rfl, el, l, dl, _, _, rfl, el, lf_slope u v, v, _, _, rfl, hv.choose_spec, v, t, rfl, hv, bt.mono (by decide), fun x4 H4 s4 n4 h4 => ?_⟩
    refine ⟨x4, absR t, rfl, h4, absR_bd bt, .inl ⟨_, rfl, ?_, _, rfl, ?_, .inl ⟨_, rfl, by decide, _, rfl, ?_, ?_⟩⟩⟩
    · rw [len_S, sizeLine_eq]; omega
    · rw [show Str.empty ++ S (numT b) = S (numT b) from S_app [] _, show (" " : Str) = S [32] by decide +kernel, S_app, S_app, S_app, S_app, len_S, List.length_append, List.length_append, List.length_append, List.length_append, sizeLine_eq]
      simp
      omega
    · rw [show Str.empty ++ S (numT b) = S (numT b) from S_app [] _, show (" " : Str) = S [32] by decide +kernel, show ("s" : Str) = S [115] by decide +kernel, S_app, S_app, S_app, S_app, S_app, len_S, List.length_append, List.length_append, List.length_append, List.length_append, List.length_append, sizeLine_eq]
      simp
      omega
    · have k := k _ (s13.trans s4)
      have ee : Str.empty ++ S (numT b) ++ " " ++ S [g] ++ " " ++ S (numT (absR t)) ++ "s" = S (showLine b t) := by
        rw [show Str.empty ++ S (numT b) = S (numT b) from S_app [] _, show (" " : Str) = S [32] by decide +kernel, show ("s" : Str) = S [115] by decide +kernel, S_app, S_app, S_app, S_app, S_app, e]
        refine congrArg S ?_
        simp only [List.append_assoc]
        rfl
      rw [← ee] at k
      exact k
def spShowS (A : Ad) : Sp := fun vs H Q _ => ∃ (x : Addr) (p q : Rat) (b1 b2 : Bool), vs = [.ref x] ∧ Strh A H x p q b1 b2 ∧ Bd 1900 p ∧ Bd 1900 q ∧ Q (.str (S (showStr p q b1 b2))) H
theorem ok_Stretch_low (T : Txt K mg A) : FnOk P w K mg base CX0 1 A.f_Stretch_low A.d_Stretch_low ["self"] (getSp A.c_Stretch "own_low") := by
  refine T.F_Stretch_low.ok sc_Stretch_low (fun vs H Q E h => ?_) (fun cdv B outer s H vs Q E hr h => ?_)
  · obtain ⟨a, dx, fs, v, rfl, _⟩ := h
    rfl
  · obtain ⟨a, dx, fs, v, rfl, e, l, k⟩ := h
    exact ⟨_, pss_one (ps_ret (pe_fld (pv 0) rfl)), _, rfl, a, _, dx, fs, v, rfl, e, T.cl_Stretch, T.n_Stretch_own_low, l, k⟩
theorem ok_Stretch_high (T : Txt K mg A) : FnOk P w K mg base CX0 1 A.f_Stretch_high A.d_Stretch_high ["self"] (getSp A.c_Stretch "own_high") := by
  refine T.F_Stretch_high.ok sc_Stretch_high (fun vs H Q E h => ?_) (fun cdv B outer s H vs Q E hr h => ?_)
  · obtain ⟨a, dx, fs, v, rfl, _⟩ := h
    rfl
  · obtain ⟨a, dx, fs, v, rfl, e, l, k⟩ := h
    exact ⟨_, pss_one (ps_ret (pe_fld (pv 0) rfl)), _, rfl, a, _, dx, fs, v, rfl, e, T.cl_Stretch, T.n_Stretch_own_high, l, k⟩
theorem ok_Stretch_has_low (T : Txt K mg A) : FnOk P w K mg base CX0 1 A.f_Stretch_has_low A.d_Stretch_has_low ["self"] (getSp A.c_Stretch "includes_low") := by
  refine T.F_Stretch_has_low.ok sc_Stretch_has_low (fun vs H Q E h => ?_) (fun cdv B outer s H vs Q E hr h => ?_)
  · obtain ⟨a, dx, fs, v, rfl, _⟩ := h
    rfl
  · obtain ⟨a, dx, fs, v, rfl, e, l, k⟩ := h
    exact ⟨_, pss_one (ps_ret (pe_fld (pv 0) rfl)), _, rfl, a, _, dx, fs, v, rfl, e, T.cl_Stretch, T.n_Stretch_includes_low, l, k⟩
theorem ok_Stretch_has_high (T : Txt K mg A) : FnOk P w K mg base CX0 1 A.f_Stretch_has_high A.d_Stretch_has_high ["self"] (getSp A.c_Stretch "includes_high") := by
  refine T.F_Stretch_has_high.ok sc_Stretch_has_high (fun vs H Q E h => ?_) (fun cdv B outer s H vs Q E hr h => ?_)
  · obtain ⟨a, dx, fs, v, rfl, _⟩ := h
    rfl
  · obtain ⟨a, dx, fs, v, rfl, e, l, k⟩ := h
    exact ⟨_, pss_one (ps_ret (pe_fld (pv 0) rfl)), _, rfl, a, _, dx, fs, v, rfl, e, T.cl_Stretch, T.n_Stretch_includes_high, l, k⟩
theorem ok_show_stretch (T : Txt K mg A) : FnOk P w K mg base CX0 5 A.f_show_stretch A.d_show_stretch ["stretch"] (spShowS A) := by
  refine T.F_show_stretch.ok sc_show_stretch (fun vs H Q E h => ?_) (fun cdv B outer s H vs Q E hr h => ?_)
  · obtain ⟨x, p, q, b1, b2, rfl, _⟩ := h
    rfl
  · obtain ⟨x, p, q, b1, b2, rfl, ⟨dx, lo, hi, mi, ex, hp, hq, _⟩, bp, bq, k⟩ := h
    have hr2 : Room 2 _ := hr.mono (by decide)
    have hr3 : Room 3 _ := hr.mono (by decide)
    refine ⟨_, (Evl.pss_cut (ps_set (i := 1) sc_show_stretch.nd rfl (Or.inl rfl) (pe_ifExp (pt_val (pe_prop (pv 0) T.cl_Stretch T.P_Stretch_has_low (ok_Stretch_has_low T) hr2 T.b_Stretch_has_low .nil pass0 rfl)) pe_str pe_str))
      (Evl.pss_cut (ps_set (i := 2) sc_show_stretch.nd rfl (Or.inl rfl) (pe_ifExp (pt_val (pe_prop (pv 0) T.cl_Stretch T.P_Stretch_has_high (ok_Stretch_has_high T) hr2 T.b_Stretch_has_high .nil pass0 rfl)) pe_str pe_str))
      (pss_one (ps_ret (pe_joined (PJ.cons (pe_fmt (pv 1)) (PJ.cons (pe_fmt (pe_call (ok_show_number T) hr3 rfl T.g_show_number T.F_show_number.kp T.b_show_number .nil pass0 (pa_cons (pe_prop (pv 0) T.cl_Stretch T.P_Stretch_low (ok_Stretch_low T) hr2 T.b_Stretch_low .nil pass0 rfl) pa_nil))) (PJ.cons pe_str (PJ.cons (pe_fmt (pe_call (ok_show_number T) hr3 rfl T.g_show_number T.F_show_number.kp T.b_show_number .nil pass0 (pa_cons (pe_prop (pv 0) T.cl_Stretch T.P_Stretch_high (ok_Stretch_high T) hr2 T.b_Stretch_high .nil pass0 rfl) pa_nil))) (PJ.cons (pe_fmt (pv 2)) PJ.nil)))))))))), ?_⟩
    refine ⟨fun σ' H' => σ' = [some (.ref x), some (.str (S [if b1 then 91 else 40])), none] ∧ H = H', ?_, ?_⟩
    · refine ⟨_, rfl, x, dx, _, rfl, ex, x, dx, _, _, rfl, ex, sf_includes_low _ _ _ _ _, _, rfl, ?_⟩
      cases b1
      · exact iteF' rfl ⟨rfl, rfl⟩
      · exact iteT' rfl ⟨rfl, rfl⟩
    rintro σ' H' ⟨rfl, rfl⟩
    refine ⟨fun σ' H' => σ' = [some (.ref x), some (.str (S [if b1 then 91 else 40])), some (.str (S [if b2 then 93 else 41]))] ∧ H = H', ?_, ?_⟩
    · refine ⟨_, rfl, x, dx, _, rfl, ex, x, dx, _, _, rfl, ex, sf_includes_high _ _ _ _ _, _, rfl, ?_⟩
      cases b2
      · exact iteF' rfl ⟨rfl, rfl⟩
      · exact iteT' rfl ⟨rfl, rfl⟩
    rintro σ' H' ⟨rfl, rfl⟩
    obtain ⟨g, hg⟩ : ∃ g : Nat, g = (if b1 then 91 else 40) := ⟨_, rfl⟩
    obtain ⟨f, hf⟩ : ∃ f : Nat, f = (if b2 then 93 else 41) := ⟨_, rfl⟩
    have e : showStr p q b1 b2 = [g] ++ (numT p ++ ([32] ++ (numT q ++ [f]))) := by unfold showStr; rw [hg, hf]
    rw [← hg, ← hf]
    have l1 := numT_le bp
    have l2 := numT_le bq
    have e0 : Str.empty ++ S [g] = S [g] := S_app [] _
    have e1 : (" " : Str) = S [32] := by decide +kernel
    refine ⟨_, rfl, .inl ⟨_, rfl, ?_, _, rfl, ?_, _, rfl, x, dx, _, rfl, ex, x, dx, _, _, rfl, ex, sf_own_low _ _ _ _ _, lo, p, rfl, hp, bp, .inl ⟨_, rfl, ?_, _, rfl, ?_, _, rfl, ?_, _, rfl, x, dx, _, rfl, ex, x, dx, _, _, rfl, ex, sf_own_high _ _ _ _ _, hi, q, rfl, hq, bq, .inl ⟨_, rfl, ?_, _, rfl, ?_, _, rfl, .inl ⟨_, rfl, ?_, _, rfl, ?_, ?_⟩⟩⟩⟩⟩
    · show 1 ≤ sizeLine
      decide
    · rw [e0]
      show 1 ≤ sizeLine
      decide
    · rw [len_S, sizeLine_eq]; omega
    · rw [e0, S_app, len_S, List.length_append, sizeLine_eq]
      simp
      omega
    · rw [e0, e1, S_app, S_app, len_S, List.length_append, List.length_append, sizeLine_eq]
      simp
      omega
    · rw [len_S, sizeLine_eq]; omega
    · rw [e0, e1, S_app, S_app, S_app, len_S, List.length_append, List.length_append, List.length_append, sizeLine_eq]
      simp
      omega
    · show 1 ≤ sizeLine
      decide
    · rw [e0, e1, S_app, S_app, S_app, S_app, len_S, List.length_append, List.length_append, List.length_append, List.length_append, sizeLine_eq]
      simp
      omega
    · have ee : Str.empty ++ S [g] ++ S (numT p) ++ " " ++ S (numT q) ++ S [f] = S (showStr p q b1 b2) := by
        rw [e0, e1, S_app, S_app, S_app, S_app, e]
        refine congrArg S ?_
        simp only [List.append_assoc]
      rw [← ee] at k
      exact k
end
/-! ### digits -/
theorem lt_line {n : Nat} (h : n ≤ 10000) : n ≤ sizeLine := by rw [sizeLine_eq]; omega
def optI : Option Nat → V
  | some n => .int n
  | none => .non
theorem dig_all (l : List Nat) : (l.map fun c => decide (c ∈ (("0123456789" : Str).cps.toList))).all id = allDig l := by
  unfold allDig
  rw [List.all_map]
  refine congrArg (fun f => l.all f) (funext fun c => ?_)
  have e : ("0123456789" : Str).cps.toList = [48, 49, 50, 51, 52, 53, 54, 55, 56, 57] := by decide +kernel
  show decide (c ∈ ("0123456789" : Str).cps.toList) = _
  rw [e, Bool.eq_iff_iff]
  simp
  omega
theorem digIn_none {l : List Nat} (h : ¬ (1 ≤ l.length ∧ l.length ≤ 30 ∧ allDig l = true)) : digIn l = none := by
  unfold digIn
  rw [if_neg]
  simp
  intro a b
  have := h
  simp at this
  exact this a b
theorem digIn_some {l : List Nat} (h1 : 1 ≤ l.length) (h2 : l.length ≤ 30) (h3 : allDig l = true) : digIn l = some (NumText.digitsVal l) := by
  unfold digIn
  rw [if_pos]
  simp [h1, h2, h3]
section
variable {P : Program} {w : World} {K : PySem.W.Frag} {mg : Str → Option Value} {base : Heap} {A : Ad}
def spDigits : Sp := fun vs H Q _ => ∃ l : List Nat, vs = [.str (S l)] ∧ l.length ≤ 10000 ∧ ∀ H', Same H H' → Q (optI (digIn l)) H'
theorem ok_digits_in (T : Txt K mg A) : FnOk P w K mg base CX0 1 A.f_digits_in A.d_digits_in ["word"] spDigits := by
  refine T.F_digits_in.ok sc_digits_in (fun vs H Q E h => ?_) (fun cdv B outer s H vs Q E hr h => ?_)
  · obtain ⟨l, rfl, _⟩ := h
    rfl
  · obtain ⟨l, rfl, hl, k⟩ := h
    refine ⟨_, (pss_cons (ps_if (PW.pt (pw_or (pt_not (pt_chain op_le op_le pe_int (pe_callB call_len_str (by rfl) T.z_len (by decide +kernel) (pa_cons (pv 0) pa_nil)) (C8.pe_gc (by rfl) T.g_MOST_DIGITS))) (pw_or1 (pt_not (pt_val (pe_callB (cr_all rfl) (by rfl) T.z_all (by decide +kernel) (pa_cons (pe_lc (own := [("sign", 1)]) (g := gName 1) (tt := tYes) rfl sc_digits_in.nd (pi_str (pv 0)) (blkOk_by (N := N_digits_in) (sc := defScope s_digits_in) (by decide +kernel)) (fun _ _ _ _ _ => (pg_name (i := 1) sc_digits_in.nd rfl (Or.inl rfl))) (fun _ _ _ _ _ => pts_nil) (fun _ _ _ _ _ => (pe_cmpR op_in_sign (pv 1) (C8.pe_gc (by rfl) T.g_DIGITS) (by rfl)))) pa_nil))))))) (pss_one (ps_ret pe_non)) pss_nil)
      (pss_one (ps_ret (pe_callTy call_int_str (by rfl) T.z_int (by decide +kernel) (pa_cons (pv 0) pa_nil))))), ?_⟩
    refine ⟨_, rfl, _, rfl, by rw [len_S]; exact lt_line hl, _, _, rfl, rfl, _, rfl, ?_⟩
    by_cases c1 : 1 ≤ l.length
    · refine iteT' (by rw [len_S]; simp; omega) ?_
      refine ⟨_, _, rfl, rfl, _, rfl, ?_⟩
      by_cases c2 : l.length ≤ 30
      · refine iteF' (by rw [len_S]; simp; omega) ?_
        refine ⟨_, rfl, _, rfl, fun D nD => lc_it (walk_str (z := S l)) (fun i Hh => Same H Hh ∧ Hh D = some (.lst ((((l.take i).map fun c => decide (c ∈ (("0123456789" : Str).cps.toList)))).map V.bl))) ⟨same_new nD, upd_same⟩ ?_ ?_ ?_⟩
        · exact fun _ _ _ _ => True.intro
        · rintro i x Hh H' hi ⟨zz, hD⟩ ⟨rfl, c, hc, rfl⟩
          have hi' : i < l.length := by simpa using hi
          refine ⟨rfl, yes_of ?_⟩
          refine iteT ?_
          refine ⟨_, rfl, _, _, rfl, rfl, ?_⟩
          refine ⟨_, hD, ?_, same_mut zz nD, ?_⟩
          · rw [List.length_map, List.length_map, List.length_take]
            exact Nat.lt_of_le_of_lt (Nat.min_le_left _ _) (Nat.lt_of_lt_of_le hi' (lt_line hl))
          · have hc2 : l[i]? = some c := by simpa using hc
            rw [upd_same, List.take_add_one, hc2, Option.toList_some, List.map_append, List.map_append]
            rfl
        rintro Hh ⟨zz, hD⟩
        rw [show (S l).cps.size = l.length by simp, List.take_length] at hD
        refine ⟨D, _, rfl, SqL.of hD, _, rfl, ?_⟩
        rw [dig_all]
        cases c3 : allDig l with
        | false =>
          refine iteT' rfl ?_
          rw [digIn_none (by simp [c3])] at k
          exact k _ zz
        | true =>
          refine iteF' rfl ?_
          rw [digIn_some c1 c2 c3] at k
          refine ⟨_, rfl, _, _, rfl, SX.int_S (a := l) c3 (by intro e; rw [e] at c1; simp at c1) (by omega), by rw [len_S]; omega, ?_⟩
          exact k _ zz
      · refine iteT' (by rw [len_S]; simp; omega) ?_
        rw [digIn_none (by omega)] at k
        exact k _ (Same.refl _)
    · refine iteF' (by rw [len_S]; simp; omega) ?_
      rw [digIn_none (by omega)] at k
      exact ⟨_, rfl, iteT' rfl (k _ (Same.refl _))⟩
end
/-! ### number_in -/
theorem par_len (S : List Nat) : ∀ (l acc p q : List Nat), TL.par S acc l = some (p, q) → p.length ≤ acc.length + l.length ∧ q.length ≤ l.length
  | [], acc, p, q, h => by cases h
  | c :: r, acc, p, q, h => by
    cases e : TL.pre S (c :: r) with
    | true =>
      rw [TL.par_hit e] at h
      cases h
      simp <;> omega
    | false =>
      rw [TL.par_miss e] at h
      have := par_len S r _ _ _ h
      simp at this ⊢
      omega
theorem fold_lt : ∀ (l : List Nat) (a : Nat), (∀ c ∈ l, c ≤ 57) → l.foldl (fun acc c => acc * 10 + (c - 48)) a < (a + 1) * 10 ^ l.length
  | [], a, _ => by simp
  | c :: r, a, h => by
    have h1 := fold_lt r (a * 10 + (c - 48)) (fun d hd => h d (List.mem_cons_of_mem _ hd))
    have h2 := h c List.mem_cons_self
    rw [List.foldl_cons, List.length_cons, Nat.pow_succ, Nat.mul_comm (10 ^ r.length) 10, ← Nat.mul_assoc]
    refine Nat.lt_of_lt_of_le h1 (Nat.mul_le_mul_right _ (by omega))
theorem digIn_lt {l : List Nat} {n : Nat} (h : digIn l = some n) : n < 10 ^ 30 := by
  unfold digIn at h
  split at h
  · rename_i c
    cases h
    simp at c
    have h3 : ∀ d ∈ l, d ≤ 57 := fun d hd => by
      have := List.all_eq_true.mp c.2 d hd
      simp at this
      exact this.2
    have := fold_lt l 0 h3
    rw [Nat.zero_add, Nat.one_mul] at this
    exact Nat.lt_of_lt_of_le this (Nat.pow_le_pow_right (by decide) c.1.2)
  · cases h
/-- what the parts of a number's text come to -/
def num2 (l : List Nat) : Option Nat → Option Nat → Option Rat
  | some t, some d => chk l (sgn l) t d
  | _, _ => none
theorem readNum_some {l a c : List Nat} (h : TL.par [47] [] (body l) = some (a, c)) : readNum l = num2 l (digIn a) (digIn c) := by
  unfold readNum
  rw [h]
  show (match digIn a, digIn c with | some t, some d => chk l (sgn l) t d | _, _ => none) = _
  cases digIn a <;> cases digIn c <;> rfl
theorem readNum_none {l : List Nat} (h : TL.par [47] [] (body l) = none) : readNum l = num2 l (digIn (body l)) (some 1) := by
  unfold readNum
  rw [h]
  show (match digIn (body l) with | some t => chk l (sgn l) t 1 | none => none) = _
  cases digIn (body l) <;> rfl
/-- a Number, or None -/
def NumO (A : Ad) (H : Hp) (v : V) : Option Rat → Prop
  | some q => ∃ a, v = .ref a ∧ Num A.c_Number H a q ∧ Bd 110 q
  | none => v = .non
theorem NumO.mono {A : Ad} {H H' : Hp} {v : V} : ∀ {o : Option Rat}, NumO A H v o → Same H H' → NumO A H' v o
  | some _, ⟨a, e, n, b⟩, s => ⟨a, e, n.mono s, b⟩
  | none, h, _ => h
theorem sgn_abs (l : List Nat) : (sgn l).natAbs < 2 ^ 2 := by
  unfold sgn
  split <;> decide
theorem body_len (l : List Nat) : (body l).length ≤ l.length := by
  unfold body
  split
  · simp
  · omega
theorem ten30 : 10 ^ 30 ≤ 2 ^ 100 := by decide
theorem e45 : ("-" : Str) = S [45] := by decide +kernel
theorem e47 : ("/" : Str) = S [47] := by decide +kernel
theorem part_some {l a c : List Nat} (h : TL.par [47] [] l = some (a, c)) : Txt.partition (S l) (S [47]) = (S a, S [47], S c) := SX.partition_some (by simp) h
theorem part_none {l : List Nat} (h : TL.par [47] [] l = none) : Txt.partition (S l) (S [47]) = (S l, S [], S []) := SX.partition_none (by simp) h
theorem S_eq {a b : List Nat} : (V.str (S a) = V.str (S b)) ↔ a = b := by
  constructor
  · intro h
    injection h with h
    exact SX.S_inj h
  · intro h
    rw [h]
/-- the parts of a partition -/
def Cut3 (l a st c : List Nat) : Prop := (st = [47] ∧ TL.par [47] [] (body l) = some (a, c)) ∨ (st = [] ∧ c = [] ∧ a = body l ∧ TL.par [47] [] (body l) = none)
section
variable {P : Program} {w : World} {K : PySem.W.Frag} {mg : Str → Option Value} {base : Heap} {A : Ad}
def spNumIn (A : Ad) : Sp := fun vs H Q _ => ∃ l : List Nat, vs = [.str (S l)] ∧ l.length ≤ 10000 ∧ ∀ r H', Same H H' → NumO A H' r (readNum l) → Q r H'
theorem ok_number_in (T : Txt K mg A) : FnOk P w K mg base CX0 5 A.f_number_in A.d_number_in ["word"] (spNumIn A) := by
  refine T.F_number_in.ok sc_number_in (fun vs H Q E h => ?_) (fun cdv B outer s H vs Q E hr h => ?_)
  · obtain ⟨l, rfl, _⟩ := h
    rfl
  · obtain ⟨l, rfl, hl, k⟩ := h
    have hr1 : Room 1 _ := hr.mono (by decide)
    have hr3 : Room 3 _ := hr.mono (by decide)
    refine ⟨_, (Evl.pss_cut (ps_set (i := 1) sc_number_in.nd rfl (Or.inl rfl) (pe_ifExp (pt_val (pe_m1 PySem.F.slot_str_startswith PySem.F.type_str_startswith mt_startswith (pv 0) (C8.pe_gc (by rfl) T.g_MINUS))) (pe_un un_neg pe_int) pe_int))
      (Evl.pss_cut (ps_asg (pe_partition (pe_ifExp (pt_cmpR op_eq (pv 1) (pe_un un_neg pe_int) (nomark _)) (pe_slice sl_str (pv 0) (po_some pe_int) po_none) (pv 0)) (C8.pe_gc (by rfl) T.g_STROKE)) (pgTup K 3 rfl (pgs_cons (pg_name (i := 2) sc_number_in.nd rfl (Or.inl rfl)) (pgs_cons (pg_name (i := 3) sc_number_in.nd rfl (Or.inl rfl)) (pgs_cons (pg_name (i := 4) sc_number_in.nd rfl (Or.inl rfl)) pgs_nil)))))
      (Evl.pss_cut (ps_par (i := 5) (j := 6) rfl sc_number_in.nd rfl rfl (by decide) rfl rfl (pa_cons (pe_call (ok_digits_in T) hr1 rfl T.g_digits_in T.F_digits_in.kp T.b_digits_in .nil pass0 (pa_cons (pv 2) pa_nil)) (pa_cons (pe_ifExp (pt_cmpR op_ne (pv 3) pe_str (nomark _)) (pe_call (ok_digits_in T) hr1 rfl T.g_digits_in T.F_digits_in.kp T.b_digits_in .nil pass0 (pa_cons (pv 4) pa_nil)) pe_int) pa_nil)) (by rfl))
      (pss_cons (ps_if (PW.pt (pw_or (pt_cmp (pc_isN (pv 5))) (pw_or (pt_cmp (pc_isN (pv 6))) (pw_or1 (pt_cmpR op_eq (pv 6) pe_int (nomark _)))))) (pss_one (ps_ret pe_non)) pss_nil)
      (pss_cons (ps_set (i := 7) sc_number_in.nd rfl (Or.inl rfl) (pe_make T.M_Number (ok_Number_init T) hr3 rfl T.g_Number (b_Number T) .nil pass0 (pa_cons (pe_op op_mulW (pv 1) (pv 5)) (pa_cons (pv 6) pa_nil))))
      (pss_one (ps_ret (pe_ifExp (pt_cmpR op_eq (pe_call (ok_show_number T) hr3 rfl T.g_show_number T.F_show_number.kp T.b_show_number .nil pass0 (pa_cons (pv 7) pa_nil)) (pv 0) (nomark _)) (pv 7) pe_non)))))))), ?_⟩
    refine ⟨fun σ' H' => σ' = [some (.str (S l)), some (.int (sgn l)), none, none, none, none, none, none] ∧ H = H', ?_, ?_⟩
    · refine ⟨_, rfl, ⟨_, rfl⟩, _, _, rfl, rfl, _, rfl, ?_⟩
      rw [e45, starts_one]
      by_cases h0 : l.head? = some 45
      · refine iteT' (decide_eq_true h0) ?_
        refine ⟨_, rfl, ?_, rfl⟩
        unfold sgn
        rw [if_pos h0]
        rfl
      · refine iteF' (decide_eq_false h0) ?_
        refine ⟨?_, rfl⟩
        unfold sgn
        rw [if_neg h0]
        rfl
    rintro σ' H' ⟨rfl, rfl⟩
    refine ⟨fun σ' H' => ∃ a st c, σ' = [some (.str (S l)), some (.int (sgn l)), some (.str (S a)), some (.str (S st)), some (.str (S c)), none, none, none] ∧ Same H H' ∧ Cut3 l a st c, ?_, ?_⟩
    · have fin : ∀ (p : Addr), H p = none → ∃ a st c, (Txt.partition (S (body l)) "/").1 = S a ∧ (Txt.partition (S (body l)) "/").2.1 = S st ∧ (Txt.partition (S (body l)) "/").2.2 = S c ∧ Cut3 l a st c := fun p _ => by
        rw [e47]
        cases e : TL.par [47] [] (body l) with
        | none => exact ⟨body l, [], [], by rw [part_none e], by rw [part_none e], by rw [part_none e], .inr ⟨rfl, rfl, rfl, e⟩⟩
        | some ac =>
          obtain ⟨a, c⟩ := ac
          exact ⟨a, [47], c, by rw [part_some e], by rw [part_some e], by rw [part_some e], .inl ⟨rfl, e⟩⟩
      have lb := body_len l
      refine ⟨_, rfl, _, rfl, rfl, _, rfl, ?_⟩
      by_cases h0 : l.head? = some 45
      · have es : sgn l = -1 := by unfold sgn; rw [if_pos h0]
        have eb : body l = l.drop 1 := by unfold body; rw [if_pos h0]
        refine iteT' (dint_eq es) ?_
        refine ⟨_, rfl, _, rfl, _, rfl, by rw [len_S]; exact lt_line hl, ?_⟩
        rw [cut_tail, ← eb]
        refine ⟨⟨_, rfl⟩, _, _, rfl, rfl, by decide +kernel, by rw [len_S]; exact lt_line (Nat.le_trans lb hl), fun p np => ?_⟩
        obtain ⟨a, st, c, f1, f2, f3, f4⟩ := fin p np
        rw [f1, f2, f3]
        refine ⟨p, _, rfl, SqT.of upd_same, rfl, _, _, rfl, _, _, rfl, _, _, rfl, rfl, a, st, c, rfl, same_new np, f4⟩
      · have es : sgn l = 1 := by unfold sgn; rw [if_neg h0]
        have eb : body l = l := by unfold body; rw [if_neg h0]
        refine iteF' (dint_ne (by rw [es]; decide)) ?_
        refine ⟨_, rfl, ?_⟩
        rw [eb] at fin
        refine ⟨⟨_, rfl⟩, _, _, rfl, rfl, by decide +kernel, by rw [len_S]; exact lt_line hl, fun p np => ?_⟩
        obtain ⟨a, st, c, f1, f2, f3, f4⟩ := fin p np
        rw [f1, f2, f3]
        refine ⟨p, _, rfl, SqT.of upd_same, rfl, _, _, rfl, _, _, rfl, _, _, rfl, rfl, a, st, c, rfl, same_new np, f4⟩
    rintro σ' H1 ⟨a, st, c, rfl, s1, hc⟩
    have lens : a.length ≤ 10000 ∧ c.length ≤ 10000 := by
      have lb := body_len l
      rcases hc with ⟨_, h⟩ | ⟨_, h, h2, _⟩
      · have := par_len _ _ _ _ _ h
        simp at this
        omega
      · rw [h, h2]
        simp
        omega
    refine ⟨fun σ' H' => ∃ o1 o2, σ' = [some (.str (S l)), some (.int (sgn l)), some (.str (S a)), some (.str (S st)), some (.str (S c)), some (optI o1), some (optI o2), none] ∧ Same H H' ∧ readNum l = num2 l o1 o2 ∧ (∀ t, o1 = some t → t < 10 ^ 30) ∧ (∀ d, o2 = some d → d < 10 ^ 30), ?_, ?_⟩
    · refine ⟨_, rfl, a, rfl, lens.1, fun H2 s2 => ?_⟩
      refine ⟨_, rfl, rfl, _, rfl, ?_⟩
      rcases hc with ⟨rfl, h⟩ | ⟨rfl, rfl, rfl, h⟩
      · refine iteT' (by decide +kernel) ?_
        refine ⟨_, rfl, c, rfl, lens.2, fun H3 s3 => ⟨_, _, rfl, digIn a, digIn c, rfl, (s1.trans s2).trans s3, readNum_some h, fun t e => digIn_lt e, fun t e => digIn_lt e⟩⟩
      · refine iteF' (by decide +kernel) ?_
        exact ⟨_, _, rfl, digIn (body l), some 1, rfl, s1.trans s2, readNum_none h, fun t e => digIn_lt e, fun t e => by cases e; decide⟩
    rintro σ' H2 ⟨o1, o2, rfl, s2, er, g1, g2⟩
    rw [er] at k
    refine ⟨_, rfl, _, rfl, ?_⟩
    cases o1 with
    | none =>
      refine iteT' rfl ?_
      exact k _ _ s2 rfl
    | some t =>
    refine iteF' rfl ?_
    refine ⟨_, rfl, _, rfl, ?_⟩
    cases o2 with
    | none =>
      refine iteT' rfl ?_
      exact k _ _ s2 rfl
    | some d =>
    refine iteF' rfl ?_
    have t1 := g1 t rfl
    have d1 := g2 d rfl
    refine ⟨_, rfl, rfl, _, rfl, ?_⟩
    by_cases hd : d = 0
    · refine iteT' (dint_eq (by omega)) ?_
      refine k _ _ s2 ?_
      show NumO A H2 .non (chk l (sgn l) t d)
      unfold chk
      rw [if_pos hd]
      rfl
    refine iteF' (dint_ne (by omega)) ?_
    have bt : ((t : Int)).natAbs < 2 ^ 100 := Nat.lt_of_lt_of_le t1 ten30
    have bd : ((d : Int)).natAbs < 2 ^ 100 := Nat.lt_of_lt_of_le d1 ten30
    refine ⟨_, rfl, _, rfl, _, _, rfl, rfl, bdw (sgn_abs l) bt, _, rfl, ?_⟩
    intro x dx nx ndx nex
    refine ⟨x, dx, sgn l * (t : Int), (d : Int), rfl, by omega, up_lt bd (by decide), upd_same, rfl, ?_⟩
    obtain ⟨s3, hx⟩ := made_num (C := A.c_Number) (Rat.divInt (sgn l * (t : Int)) (d : Int)) nx ndx
    generalize upd (upd (upd H2 dx (.own x)) x (.ins A.c_Number dx [])) x (.ins A.c_Number dx (nf (Rat.divInt (sgn l * (t : Int)) (d : Int)))) = H3 at *
    have bq : Bd 102 (Rat.divInt (sgn l * (t : Int)) (d : Int)) := Bd.mk' (by omega) (imul_lt (sgn_abs l) bt) (up_lt bd (by decide))
    have hk := k
    have ec : num2 l (some t) (some d) = if numT (Rat.divInt (sgn l * (t : Int)) (d : Int)) = l then some (Rat.divInt (sgn l * (t : Int)) (d : Int)) else none := by
      show chk l (sgn l) t d = _
      unfold chk
      rw [if_neg hd]
    rw [ec] at k
    generalize Rat.divInt (sgn l * (t : Int)) (d : Int) = q at *
    refine stT (σ' := [some (.str (S l)), some (.int (sgn l)), some (.str (S a)), some (.str (S st)), some (.str (S c)), some (.int t), some (.int d), some (.ref x)]) rfl ?_
    refine ⟨_, rfl, x, q, rfl, hx, bq.mono (by decide), _, rfl, rfl, _, rfl, ?_⟩
    by_cases hq : numT q = l
    · refine iteT' (decide_eq_true (S_eq.mpr hq)) ?_
      rw [if_pos hq] at k
      exact ⟨_, rfl, k _ _ (s2.trans s3) ⟨x, rfl, hx, bq.mono (by decide)⟩⟩
    · refine iteF' (decide_eq_false fun z => hq (S_eq.mp z)) ?_
      rw [if_neg hq] at k
      exact k _ _ (s2.trans s3) rfl
end
/-! ### line_in -/
theorem e32 : (" " : Str) = S [32] := by decide +kernel
theorem e115 : ("s" : Str) = S [115] := by decide +kernel
theorem e43 : ("+" : Str) = S [43] := by decide +kernel
theorem Bd.zsub {n : Nat} {t : Rat} (h : WM.Bd n t) : WM.Bd n (0 - t) := by
  rw [show 0 - t = -t by grind]
  exact h.neg
theorem z01 : (Rat.divInt 0 1 : Rat) = 0 := by decide
theorem bd0 : WM.Bd 110 (0 : Rat) := ⟨by decide, by decide⟩
theorem in_pm (s : List Nat) : inV (.str (S s)) [.str "+", .str "-"] = decide (s = [43] ∨ s = [45]) := by
  rw [e43, e45]
  show ((S [43] == S s) || ((S [45] == S s) || false)) = _
  rw [show (S [43] == S s) = decide ([43] = s) from SX.S_beq_eq, show (S [45] == S s) = decide ([45] = s) from SX.S_beq_eq, Bool.eq_iff_iff]
  simp only [Bool.or_false, Bool.or_eq_true, decide_eq_true_iff]
  constructor <;> (rintro (h | h) <;> simp [h])
def partsOf (l : List Nat) : List (List Nat) → Option Rat × Option Rat
  | [_] => if l.getLast? = some 115 then (some 0, readSlope l) else (readNum l, some 0)
  | [a, s, c] => if s = [43] ∨ s = [45] then (readNum a, (readSlope c).map fun t => if s = [45] then 0 - t else t) else (none, none)
  | _ => (none, none)
theorem parts_of (l : List Nat) : parts l = partsOf l (TL.spl [32] 0 [] l) := by
  unfold parts partsOf
  rfl
theorem spl_len (S : List Nat) : ∀ (l : List Nat) (k : Nat) (acc : List Nat), ∀ w ∈ TL.spl S k acc l, w.length ≤ acc.length + l.length
  | [], k, acc, w, h => by
    rw [TL.spl_nil] at h
    rw [List.mem_singleton.mp h]
    simp
  | c :: r, k + 1, acc, w, h => by
    have := spl_len S r k acc w h
    simp
    omega
  | c :: r, 0, acc, w, h => by
    cases e : TL.pre S (c :: r) with
    | true =>
      rw [TL.spl_hit e] at h
      rcases List.mem_cons.mp h with h | h
      · rw [h]
        simp
      · have := spl_len S r _ _ w h
        simp at this ⊢
        omega
    | false =>
      rw [TL.spl_miss e] at h
      have := spl_len S r _ _ w h
      simp at this ⊢
      omega
theorem len3 {α : Type} {ws : List α} (h : ws.length = 3) : ∃ a s c, ws = [a, s, c] := by
  match ws, h with
  | [a, s, c], _ => exact ⟨a, s, c, rfl⟩
/-- a Line, or None -/
def LinO (A : Ad) (H : Hp) (v : V) : Option (Rat × Rat) → Prop
  | some (b, t) => ∃ a, v = .ref a ∧ Lin A H a b t ∧ WM.Bd 120 b ∧ WM.Bd 120 t
  | none => v = .non
theorem readLine_of {l : List Nat} {ob ot : Option Rat} (h : parts l = (ob, ot)) : readLine l = match ob, ot with
    | some b, some t => if showLine b t = l then some (b, t) else none
    | _, _ => none := by
  unfold readLine
  cases ob <;> cases ot <;> simp only [h]
section
variable {P : Program} {w : World} {K : PySem.W.Frag} {mg : Str → Option Value} {base : Heap} {A : Ad}
def spSlopeIn (A : Ad) : Sp := fun vs H Q _ => ∃ l : List Nat, vs = [.str (S l)] ∧ l.length ≤ 10000 ∧ ∀ r H', Same H H' → NumO A H' r (readSlope l) → Q r H'
theorem ok_slope_in (T : Txt K mg A) : FnOk P w K mg base CX0 6 A.f_slope_in A.d_slope_in ["word"] (spSlopeIn A) := by
  refine T.F_slope_in.ok sc_slope_in (fun vs H Q E h => ?_) (fun cdv B outer s H vs Q E hr h => ?_)
  · obtain ⟨l, rfl, _⟩ := h
    rfl
  · obtain ⟨l, rfl, hl, k⟩ := h
    have hr5 : Room 5 _ := hr.mono (by decide)
    refine ⟨_, (pss_one (ps_ret (pe_ifExp (pt_val (pe_m1 PySem.F.slot_str_endswith PySem.F.type_str_endswith mt_endswith (pv 0) (C8.pe_gc (by rfl) T.g_OF_SPEED))) (pe_call (ok_number_in T) hr5 rfl T.g_number_in T.F_number_in.kp T.b_number_in .nil pass0 (pa_cons (pe_slice sl_str (pv 0) po_none (po_some (pe_un un_neg pe_int))) pa_nil)) pe_non))), ?_⟩
    refine ⟨_, rfl, ⟨_, rfl⟩, _, _, rfl, rfl, _, rfl, ?_⟩
    rw [e115, ends_one]
    unfold readSlope at k
    by_cases h : l.getLast? = some 115
    · refine iteT' (decide_eq_true h) ?_
      rw [if_pos h] at k
      refine ⟨_, rfl, _, rfl, _, rfl, _, rfl, by rw [len_S]; exact lt_line hl, ?_⟩
      rw [cut_init]
      exact ⟨l.dropLast, rfl, by simp; omega, fun r H' s hr => k r H' s hr⟩
    · refine iteF' (decide_eq_false h) ?_
      rw [if_neg h] at k
      exact k _ _ (Same.refl _) rfl
def spLineIn (A : Ad) : Sp := fun vs H Q _ => ∃ l : List Nat, vs = [.str (S l)] ∧ l.length ≤ 10000 ∧ ∀ r H', Same H H' → LinO A H' r (readLine l) → Q r H'
theorem ok_line_in (T : Txt K mg A) : FnOk P w K mg base CX0 7 A.f_line_in A.d_line_in ["text"] (spLineIn A) := by
  refine T.F_line_in.ok sc_line_in (fun vs H Q E h => ?_) (fun cdv B outer s H vs Q E hr h => ?_)
  · obtain ⟨l, rfl, _⟩ := h
    rfl
  · obtain ⟨l, rfl, hl, k⟩ := h
    have hr2 : Room 2 _ := hr.mono (by decide)
    have hr4 : Room 4 _ := hr.mono (by decide)
    have hr5 : Room 5 _ := hr.mono (by decide)
    have hr6 : Room 6 _ := hr.mono (by decide)
    refine ⟨_, (pss_cons (ps_set (i := 1) sc_line_in.nd rfl (Or.inl rfl) (pe_split (pv 0) (C8.pe_gc (by rfl) T.g_BLANK)))
      (Evl.pss_cut (ps_if (pt_cmpR op_eq (pe_callB call_len_seq (by rfl) T.z_len (by decide +kernel) (pa_cons (pv 1) pa_nil)) pe_int (nomark _)) (pss_one (ps_asg (pe_ifExp (pt_val (pe_m1 PySem.F.slot_str_endswith PySem.F.type_str_endswith mt_endswith (pv 0) (C8.pe_gc (by rfl) T.g_OF_SPEED))) (pe_tup (pa_cons (pe_call (ok_whole T) hr4 rfl T.g_whole T.F_whole.kp T.b_whole .nil pass0 (pa_cons pe_int pa_nil)) (pa_cons (pe_call (ok_slope_in T) hr6 rfl T.g_slope_in T.F_slope_in.kp T.b_slope_in .nil pass0 (pa_cons (pv 0) pa_nil)) pa_nil))) (pe_tup (pa_cons (pe_call (ok_number_in T) hr5 rfl T.g_number_in T.F_number_in.kp T.b_number_in .nil pass0 (pa_cons (pv 0) pa_nil)) (pa_cons (pe_call (ok_whole T) hr4 rfl T.g_whole T.F_whole.kp T.b_whole .nil pass0 (pa_cons pe_int pa_nil)) pa_nil)))) (pgTup K 2 rfl (pgs_cons (pg_name (i := 2) sc_line_in.nd rfl (Or.inl rfl)) (pgs_cons (pg_name (i := 3) sc_line_in.nd rfl (Or.inl rfl)) pgs_nil))))) (pss_one (ps_if (PW.pt (pw_and (pt_cmpR op_eq (pe_callB call_len_seq (by rfl) T.z_len (by decide +kernel) (pa_cons (pv 1) pa_nil)) (C8.pe_gc (by rfl) T.g_THREE) (nomark _)) (pw_and1 (pt_cmpR op_in_seq (pe_ix ix_list (pv 1) pe_int (fun _ _ => rfl)) (pe_tup (pa_cons (C8.pe_gc (by rfl) T.g_PLUS) (pa_cons (C8.pe_gc (by rfl) T.g_MINUS) pa_nil))) (by rfl))))) (pss_cons (ps_par (i := 2) (j := 3) rfl sc_line_in.nd rfl rfl (by decide) rfl rfl (pa_cons (pe_call (ok_number_in T) hr5 rfl T.g_number_in T.F_number_in.kp T.b_number_in .nil pass0 (pa_cons (pe_ix ix_list (pv 1) pe_int (fun _ _ => rfl)) pa_nil)) (pa_cons (pe_call (ok_slope_in T) hr6 rfl T.g_slope_in T.F_slope_in.kp T.b_slope_in .nil pass0 (pa_cons (pe_ix ix_list (pv 1) pe_int (fun _ _ => rfl)) pa_nil)) pa_nil)) (by rfl))
      (pss_one (ps_set (i := 3) sc_line_in.nd rfl (Or.inl rfl) (pe_ifExp (PW.pt (pw_and (pt_cmp (pc_notN (pv 3))) (pw_and1 (pt_cmpR op_eq (pe_ix ix_list (pv 1) pe_int (fun _ _ => rfl)) (C8.pe_gc (by rfl) T.g_MINUS) (nomark _))))) (pe_op (op_own2 (ok_Number_sub T) T.b_Number_sub T.m_Number_sub.at_ T.m_Number_sub.fn T.sf_Number hr4 pass0) (pe_call (ok_whole T) hr4 rfl T.g_whole T.F_whole.kp T.b_whole .nil pass0 (pa_cons pe_int pa_nil)) (pv 3)) (pv 3))))) (pss_one (ps_ret pe_non)))))
      (pss_cons (ps_if (PW.pt (pw_or (pt_cmp (pc_isN (pv 2))) (pw_or1 (pt_cmp (pc_isN (pv 3)))))) (pss_one (ps_ret pe_non)) pss_nil)
      (pss_cons (ps_set (i := 4) sc_line_in.nd rfl (Or.inl rfl) (pe_make T.M_Line (ok_Line_init T) hr2 rfl T.g_Line T.b_Line_init .nil pass0 (pa_cons (pv 2) (pa_cons (pv 3) pa_nil))))
      (pss_one (ps_ret (pe_ifExp (pt_cmpR op_eq (pe_call (ok_show_line T) hr6 rfl T.g_show_line T.F_show_line.kp T.b_show_line .nil pass0 (pa_cons (pv 4) pa_nil)) (pv 0) (nomark _)) (pv 4) pe_non))))))), ?_⟩
    refine ⟨_, rfl, ⟨_, rfl⟩, _, _, rfl, rfl, by decide +kernel, by rw [len_S, sizeLine_eq]; omega, fun p np => ?_⟩
    rw [e32, SX.split_S (by simp) (by decide)]
    have s1 := same_new (o := .lst (((TL.spl [32] 0 [] l).map SX.S).map V.str)) np
    have ep : (upd H p (.lst (((TL.spl [32] 0 [] l).map SX.S).map V.str))) p = some (.lst (((TL.spl [32] 0 [] l).map SX.S).map V.str)) := upd_same
    have lw := spl_len [32] l 0 []
    have epa := parts_of l
    generalize TL.spl [32] 0 [] l = ws at *
    generalize upd H p (.lst ((ws.map SX.S).map V.str)) = H1 at *
    refine stT (σ' := [some (.str (S l)), some (.ref p), none, none, none]) rfl ?_
    refine ⟨fun σ' H' => ∃ vb vt ob ot, σ' = [some (.str (S l)), some (.ref p), some vb, some vt, none] ∧ Same H H' ∧ NumO A H' vb ob ∧ NumO A H' vt ot ∧ parts l = (ob, ot), ?_, ?_⟩
    · refine ⟨_, rfl, p, _, rfl, Or.inl (SqL.of ep), rfl, _, rfl, ?_⟩
      by_cases c1 : ws.length = 1
      · refine iteT' (dint_eq (by simp [c1])) ?_
        obtain ⟨w1, rfl⟩ : ∃ w1, ws = [w1] := List.length_eq_one_iff.mp c1
        refine ⟨_, rfl, ⟨_, rfl⟩, _, _, rfl, rfl, _, rfl, ?_⟩
        rw [e115, ends_one]
        by_cases h : l.getLast? = some 115
        · refine iteT' (decide_eq_true h) ?_
          refine ⟨0, rfl, fun x H2 s2 n2 h2 => ⟨_, rfl, l, rfl, hl, fun r H3 s3 hr => ⟨by show 2 ≤ sizeLine; decide, fun tp ntp => ?_⟩⟩⟩
          have s4 := same_new (o := .tup [.ref x, r]) ntp
          rw [z01] at h2
          refine ⟨tp, _, rfl, SqT.of upd_same, rfl, _, _, rfl, _, _, rfl, rfl, .ref x, r, some 0, readSlope l, rfl, ((s1.trans s2).trans s3).trans s4, ⟨x, rfl, (h2.mono s3).mono s4, bd0⟩, hr.mono s4, ?_⟩
          rw [epa]
          show (if l.getLast? = some 115 then (some 0, readSlope l) else (readNum l, some 0)) = _
          rw [if_pos h]
        · refine iteF' (decide_eq_false h) ?_
          refine ⟨_, rfl, l, rfl, hl, fun r H2 s2 hr => ⟨0, rfl, fun x H3 s3 n3 h3 => ⟨by show 2 ≤ sizeLine; decide, fun tp ntp => ?_⟩⟩⟩
          have s4 := same_new (o := .tup [r, .ref x]) ntp
          rw [z01] at h3
          refine ⟨tp, _, rfl, SqT.of upd_same, rfl, _, _, rfl, _, _, rfl, rfl, r, .ref x, readNum l, some 0, rfl, ((s1.trans s2).trans s3).trans s4, (hr.mono s3).mono s4, ⟨x, rfl, h3.mono s4, bd0⟩, ?_⟩
          rw [epa]
          show (if l.getLast? = some 115 then (some 0, readSlope l) else (readNum l, some 0)) = _
          rw [if_neg h]
      · refine iteF' (dint_ne (by simp; omega)) ?_
        refine ⟨_, rfl, p, _, rfl, Or.inl (SqL.of ep), rfl, _, rfl, ?_⟩
        by_cases c3 : ws.length = 3
        · refine iteT' (dint_eq (by simp [c3])) ?_
          obtain ⟨a, s, c, rfl⟩ : ∃ a s c, ws = [a, s, c] := len3 c3
          refine ⟨_, rfl, p, _, _, _, rfl, rfl, SqL.of ep, rfl, by show 2 ≤ sizeLine; decide, fun tp ntp => ?_⟩
          have s2 := same_new (o := .tup [.str "+", .str "-"]) ntp
          have ep := s2 _ _ ep
          refine ⟨tp, _, rfl, .inr (SqT.of upd_same), rfl, rfl, _, rfl, ?_⟩
          generalize upd H1 tp (.tup [.str "+", .str "-"]) = H2 at *
          have la : a.length ≤ 10000 := by have := lw a (by simp); simp at this; omega
          have lc : c.length ≤ 10000 := by have := lw c (by simp); simp at this; omega
          show (if inV (.str (S s)) [.str "+", .str "-"] = true then _ else _)
          rw [in_pm]
          have epa : parts l = if s = [43] ∨ s = [45] then (readNum a, (readSlope c).map fun t => if s = [45] then 0 - t else t) else (none, none) := epa
          by_cases hs : s = [43] ∨ s = [45]
          · refine iteT' (decide_eq_true hs) ?_
            rw [if_pos hs] at epa
            refine ⟨_, rfl, p, _, _, _, rfl, rfl, SqL.of ep, rfl, a, rfl, la, fun r H3 s3 hr => ?_⟩
            have ep := s3 _ _ ep
            refine ⟨_, rfl, p, _, _, _, rfl, rfl, SqL.of ep, rfl, c, rfl, lc, fun u H4 s4 hu => ?_⟩
            have ep := s4 _ _ ep
            have hr := hr.mono s4
            refine ⟨_, _, rfl, ?_⟩
            refine stT (σ' := [some (.str (S l)), some (.ref p), some (r), some (u), none]) rfl ?_
            have sH := (((s1.trans s2).trans s3).trans s4)
            clear s1 s2 s3 s4
            refine ⟨_, rfl, _, rfl, ?_⟩
            cases eo : readSlope c with
            | none =>
              rw [eo] at hu epa
              cases (show u = V.non from hu)
              refine iteF' (by simp) ?_
              exact ⟨_, rfl, r, .non, readNum a, none, rfl, sH, hr, rfl, epa⟩
            | some t =>
              rw [eo] at hu epa
              obtain ⟨ua, rfl, hu, bu⟩ := hu
              refine iteT' (by simp) ?_
              refine ⟨_, rfl, p, _, _, _, rfl, rfl, SqL.of ep, rfl, rfl, _, rfl, ?_⟩
              by_cases h45 : s = [45]
              · refine iteT' (decide_eq_true (by rw [h45]; decide +kernel)) ?_
                refine ⟨0, rfl, fun x H5 s5 n5 h5 => ?_⟩
                rw [z01] at h5
                have hu5 := hu.mono s5
                refine ⟨_, rfl, x, _, _, ua, _, _, rfl, rfl, h5.choose_spec, hu5.choose_spec, x, ua, 0, t, rfl, h5, hu5, bd0.mono (by decide), bu.mono (by decide), fun y H6 s6 n6 h6 => ?_⟩
                refine ⟨r, .ref y, readNum a, some (0 - t), rfl, (sH.trans s5).trans s6, (hr.mono s5).mono s6, ⟨y, rfl, h6, Bd.zsub bu⟩, ?_⟩
                rw [epa]
                show (readNum a, some (if s = [45] then 0 - t else t)) = _
                rw [if_pos h45]
              · refine iteF' (decide_eq_false fun z => h45 ?_) ?_
                · have z : V.str (S s) = V.str "-" := z
                  rw [e45] at z
                  exact S_eq.mp z
                refine ⟨_, rfl, r, .ref ua, readNum a, some t, rfl, sH, hr, ⟨ua, rfl, hu, bu⟩, ?_⟩
                rw [epa]
                show (readNum a, some (if s = [45] then 0 - t else t)) = _
                rw [if_neg h45]
          · refine iteF' (decide_eq_false hs) ?_
            rw [if_neg hs] at epa
            refine k _ _ (s1.trans s2) ?_
            rw [readLine_of epa]
            rfl
        · refine iteF' (dint_ne (by simp; omega)) ?_
          refine k _ _ s1 ?_
          have : parts l = (none, none) := by
            rw [epa]
            match ws, c1, c3 with
            | [], _, _ => rfl
            | [_], h, _ => exact absurd rfl h
            | [_, _], _, _ => rfl
            | [_, _, _], _, h => exact absurd rfl h
            | _ :: _ :: _ :: _ :: _, _, _ => rfl
          rw [readLine_of this]
          rfl
    rintro σ' H2 ⟨vb, vt, ob, ot, rfl, s2, hb, ht, epa⟩
    have er := readLine_of epa
    rw [er] at k
    refine ⟨_, rfl, _, rfl, ?_⟩
    cases ob with
    | none =>
      cases (show vb = V.non from hb)
      refine iteT' (by simp) ?_
      exact k _ _ s2 rfl
    | some b =>
    obtain ⟨x, rfl, hb, bb⟩ := hb
    refine iteF' (by simp) ?_
    refine ⟨_, rfl, _, rfl, ?_⟩
    cases ot with
    | none =>
      cases (show vt = V.non from ht)
      refine iteT' (by simp) ?_
      exact k _ _ s2 rfl
    | some t =>
    obtain ⟨y, rfl, ht, bt⟩ := ht
    refine iteF' (by simp) ?_
    refine ⟨_, rfl, _, rfl, fun z dz nz ndz nez => ⟨z, dz, x, y, rfl, upd_same, rfl, ?_⟩⟩
    obtain ⟨s3, hz⟩ := made_lin (A := A) hb ht nz ndz
    generalize upd (upd (upd H2 dz (.own z)) z (.ins A.c_Line dz [])) z (.ins A.c_Line dz (lf x y)) = H3 at *
    refine stT (σ' := [some (.str (S l)), some (.ref p), some (.ref x), some (.ref y), some (.ref z)]) rfl ?_
    refine ⟨_, rfl, z, b, t, rfl, hz, bb.mono (by decide), bt.mono (by decide), fun H4 s4 => ⟨_, rfl, rfl, _, rfl, ?_⟩⟩
    have k : ∀ r H', Same H H' → LinO A H' r (if showLine b t = l then some (b, t) else none) → Q r H' := k
    by_cases hq : showLine b t = l
    · refine iteT' (decide_eq_true (S_eq.mpr hq)) ?_
      rw [if_pos hq] at k
      exact ⟨_, rfl, k _ _ ((s2.trans s3).trans s4) ⟨z, rfl, hz.mono s4, bb.mono (by decide), bt.mono (by decide)⟩⟩
    · refine iteF' (decide_eq_false fun w => hq (S_eq.mp w)) ?_
      rw [if_neg hq] at k
      exact k _ _ ((s2.trans s3).trans s4) rfl
end
/-! ### Stretch of any values -/
/-- what is neither a Number nor a truth -/
def Odd7 (K : PySem.W.Frag) (A : Ad) (H : Hp) (y : V) : Prop := Sm y ∧ ∀ Hh, Same H Hh → ∃ ty, TyX K Hh y ty ∧ PySem.W.kitOne K ty (.ref A.c_Number) = some false ∧ PySem.W.kitOne K ty (.type "bool") = some false
def Lo (K : PySem.W.Frag) (A : Ad) (H : Hp) (y : V) : Option Rat → Prop
  | some q => ∃ a, y = .ref a ∧ Num A.c_Number H a q ∧ Bd 900 q
  | none => Odd7 K A H y
def Tr (K : PySem.W.Frag) (A : Ad) (H : Hp) (y : V) : Option Bool → Prop
  | some b => y = .bl b
  | none => Odd7 K A H y
theorem Odd7.mono {K : PySem.W.Frag} {A : Ad} {H H' : Hp} {y : V} (h : Odd7 K A H y) (s : Same H H') : Odd7 K A H' y := ⟨h.1, fun Hh z => h.2 Hh (s.trans z)⟩
theorem Lo.mono {K : PySem.W.Frag} {A : Ad} {H H' : Hp} {y : V} : ∀ {o : Option Rat}, Lo K A H y o → Same H H' → Lo K A H' y o
  | some _, ⟨a, e, n, b⟩, s => ⟨a, e, n.mono s, b⟩
  | none, h, s => Odd7.mono h s
theorem Tr.mono {K : PySem.W.Frag} {A : Ad} {H H' : Hp} {y : V} : ∀ {o : Option Bool}, Tr K A H y o → Same H H' → Tr K A H' y o
  | some _, h, _ => h
  | none, h, s => Odd7.mono h s
theorem Lo.sm {K : PySem.W.Frag} {A : Ad} {H : Hp} {y : V} : ∀ {o : Option Rat}, Lo K A H y o → Sm y
  | some _, ⟨a, e, _⟩ => .inr ⟨a, e⟩
  | none, h => h.1
def fine : Option Rat → Option Rat → Option Bool → Option Bool → Bool
  | some p, some q, some b1, some b2 => decide (p < q) || (decide (p = q) && b1 && b2)
  | _, _, _, _ => false
theorem fine3 {o1 o2 : Option Rat} {o4 : Option Bool} : fine o1 o2 none o4 = false := by
  cases o1 <;> cases o2 <;> rfl
theorem fine4 {o1 o2 : Option Rat} {o3 : Option Bool} : fine o1 o2 o3 none = false := by
  cases o1 <;> cases o2 <;> cases o3 <;> rfl
theorem fine1 {o2 : Option Rat} {o3 o4 : Option Bool} : fine none o2 o3 o4 = false := rfl
theorem fine2 {o1 : Option Rat} {o3 o4 : Option Bool} : fine o1 none o3 o4 = false := by
  cases o1 <;> rfl
theorem same_exc {H H1 : Hp} {e dx C : Addr} {o1 o2 o3 o4 : HO} (s : Same H H1) (ne : H1 e = none) (nd : (upd H1 e o1) dx = none) (hd : dx ≠ e) : Same H (upd (del (upd (upd (upd H1 e o1) dx o2) e o3) e) dx o4) := fun b o h => by
  have h1 := s _ _ h
  have be : b ≠ e := ne_of_none h1 ne
  have bd : b ≠ dx := fun z => by
    rw [upd_ne hd, ← z, h1] at nd
    cases nd
  rw [upd_ne bd, del_ne be, upd_ne be, upd_ne bd, upd_ne be]
  exact h1
/-- the error's value -/
def BadAt (dd : Addr) (H : Hp) (v : V) : Prop := H dd = some (.xd [("value", v)])
theorem raised {R : Addr → Hp → Prop} {H : Hp} {t e dd : Addr} {xs : List V} {o1 o2 o3 : HO} (nt : H t = none) (ne : (upd H t (.tup xs)) e = none) (nd : (upd (upd H t (.tup xs)) e o1) dd = none) (hd : dd ≠ e)
    (k : ∀ dd t H', Same H H' → H' t = some (.tup xs) → BadAt dd H' (.ref t) → R dd H') : R dd (upd (del (upd (upd (upd (upd H t (.tup xs)) e o1) dd o2) e o3) e) dd (.xd [("value", .ref t)])) := by
  have het : t ≠ e := ne_of_none upd_same ne
  have hdt : t ≠ dd := fun z => by
    rw [upd_ne hd, ← z, upd_same] at nd
    cases nd
  refine k dd t _ (same_exc (C := e) (same_new nt) ne nd hd) ?_ upd_same
  rw [upd_ne hdt, del_ne het, upd_ne het, upd_ne hdt, upd_ne het, upd_same]
section
variable {P : Program} {w : World} {K : PySem.W.Frag} {mg : Str → Option Value} {base : Heap} {A : Ad}
theorem Lo.ty (T : Txt K mg A) {H : Hp} {y : V} : ∀ {o : Option Rat}, Lo K A H y o → ∃ t, TyX K H y t ∧ PySem.W.kitOne K t (.ref A.c_Number) = some o.isSome
  | some _, ⟨a, e, n, _⟩ => ⟨_, by rw [e]; exact .base (.ins n.choose_spec T.cl_Number T.ca_Number T.cn T.ct T.cm_Number), T.kit_NumNum⟩
  | none, h => by
    obtain ⟨ty, t1, t2, t3⟩ := h.2 _ (Same.refl _)
    exact ⟨_, t1, t2⟩
theorem Tr.ty (T : Txt K mg A) {H : Hp} {y : V} : ∀ {o : Option Bool}, Tr K A H y o → ∃ t, TyX K H y t ∧ PySem.W.kitOne K t (.type "bool") = some o.isSome
  | some _, h => ⟨_, by rw [show y = _ from h]; exact .base (.bl _), T.kit_blbl⟩
  | none, h => by
    obtain ⟨ty, t1, t2, t3⟩ := h.2 _ (Same.refl _)
    exact ⟨_, t1, t3⟩
def spStrX (K : PySem.W.Frag) (A : Ad) : Sp := fun vs H Q E => ∃ (o dx : Addr) (y1 y2 y3 y4 : V) (o1 o2 : Option Rat) (o3 o4 : Option Bool), vs = [.ref o, y1, y2, y3, y4] ∧ Lo K A H y1 o1 ∧ Lo K A H y2 o2 ∧ Tr K A H y3 o3 ∧ Tr K A H y4 o4 ∧ H o = some (.ins A.c_Stretch dx []) ∧
  (∀ lo hi p q b1 b2, y1 = .ref lo → y2 = .ref hi → o1 = some p → o2 = some q → o3 = some b1 → o4 = some b2 → fine (some p) (some q) (some b1) (some b2) = true → ∀ mi H', SameBut o H H' → H' o = some (.ins A.c_Stretch dx (sf lo hi mi b1 b2)) → Num A.c_Number H' mi ((p + q) / 2) → Q .non H') ∧
  (fine o1 o2 o3 o4 = false → ∀ dd t H', Same H H' → H' t = some (.tup [y1, y2]) → BadAt dd H' (.ref t) → E (.ref A.c_BadStretch) (some dd) H')
theorem ok_Stretch_initX (T : Txt K mg A) : FnOk PP w K mg base (L2.CX PP w) 6 A.f_Stretch_init A.d_Stretch_init ["self", "low", "high", "has_low", "has_high"] (spStrX K A) := by
  refine T.F_Stretch_init.ok (CX := L2.CX PP w) sc_Stretch_init (fun vs H Q E h => ?_) (fun cdv B outer s H vs Q E hr h => ?_)
  · obtain ⟨o, dx, y1, y2, y3, y4, o1, o2, o3, o4, rfl, _⟩ := h
    rfl
  · obtain ⟨o, dx, y1, y2, y3, y4, o1, o2, o3, o4, rfl, h1, h2, h3, h4, ho, k1, k2⟩ := h
    have hr1 : Room 1 _ := hr.mono (by decide)
    have hr2 : Room 2 _ := hr.mono (by decide)
    have hr4 : Room 4 _ := hr.mono (by decide)
    refine ⟨_, (pss_cons (ps_if (PW.pt (pw_or (pt_not (pt_val (pe_callB call_isi (by rfl) T.z_isinstance (by decide +kernel) (pa_cons (pv 1) (pa_cons (pe_glob (v := .ref A.c_Number) (by rfl) T.g_Number rfl) pa_nil))))) (pw_or1 (pt_not (pt_val (pe_callB call_isi (by rfl) T.z_isinstance (by decide +kernel) (pa_cons (pv 2) (pa_cons (pe_glob (v := .ref A.c_Number) (by rfl) T.g_Number rfl) pa_nil)))))))) (pss_one (ps_raise rfl (takes_of rfl rfl rfl rfl) (pmk_oex T.X_BadStretch T.in_BadStretch T.ti_BadStretch (T.I_BadStretch _ _) hr2 T.b_BadStretch_init .nil pass0 rfl T.g_BadStretch (pa_cons (pe_tup (pa_cons (pv 1) (pa_cons (pv 2) pa_nil))) pa_nil)))) pss_nil)
      (pss_cons (ps_if (PW.pt (pw_or (pt_not (pt_val (pe_callB call_isi (by rfl) T.z_isinstance (by decide +kernel) (pa_cons (pv 3) (pa_cons (pe_bltn (v := .ty "bool") (by rfl) T.z_bool (by decide +kernel) rfl) pa_nil))))) (pw_or1 (pt_not (pt_val (pe_callB call_isi (by rfl) T.z_isinstance (by decide +kernel) (pa_cons (pv 4) (pa_cons (pe_bltn (v := .ty "bool") (by rfl) T.z_bool (by decide +kernel) rfl) pa_nil)))))))) (pss_one (ps_raise rfl (takes_of rfl rfl rfl rfl) (pmk_oex T.X_BadStretch T.in_BadStretch T.ti_BadStretch (T.I_BadStretch _ _) hr2 T.b_BadStretch_init .nil pass0 rfl T.g_BadStretch (pa_cons (pe_tup (pa_cons (pv 1) (pa_cons (pv 2) pa_nil))) pa_nil)))) pss_nil)
      (Evl.pss_cut (ps_if (PW.pt (pw_or (pt_val (pe_meth (pv 2) T.cl_Number T.m_Number_is_less (ok_Number_is_less T) hr1 T.b_Number_is_less .nil pass0 (pa_cons (pv 1) pa_nil))) (pw_or1 (PW.pt (pw_and (pt_cmpR (opOwnEq K (ok_Number_eq T) T.b_Number_eq T.m_Number_eq.at_ T.m_Number_eq.fn hr1 pass0) (pv 1) (pv 2) (nomark _)) (pw_and1 (pt_not (PW.pt (pw_and (pt_val (pv 3)) (pw_and1 (pt_val (pv 4)))))))))))) (pss_one (ps_raise rfl (takes_of rfl rfl rfl rfl) (pmk_oex T.X_BadStretch T.in_BadStretch T.ti_BadStretch (T.I_BadStretch _ _) hr2 T.b_BadStretch_init .nil pass0 rfl T.g_BadStretch (pa_cons (pe_tup (pa_cons (pv 1) (pa_cons (pv 2) pa_nil))) pa_nil)))) pss_nil)
      (pss_cons (ps_fld (pv 0) (pv 1) rfl)
      (pss_cons (ps_fld (pv 0) (pv 2) rfl)
      (pss_cons (ps_fld (pv 0) (pv 3) rfl)
      (pss_cons (ps_fld (pv 0) (pv 4) rfl)
      (pss_one (ps_fld (pv 0) (pe_meth (pe_op (op_own2 (ok_Number_add T) T.b_Number_add T.m_Number_add.at_ T.m_Number_add.fn T.sf_Number hr4 pass0) (pv 1) (pv 2)) T.cl_Number T.m_Number_divided_by (ok_Number_divided_by T) hr4 T.b_Number_divided_by .nil pass0 (pa_cons (pe_call (ok_whole T) hr4 rfl T.g_whole T.F_whole.kp T.b_whole .nil pass0 (pa_cons pe_int pa_nil)) pa_nil)) rfl))))))))), ?_⟩
    obtain ⟨t1, x1, e1⟩ := h1.ty T
    refine ⟨_, rfl, _, _, _, _, _, rfl, .own _, x1, e1, _, rfl, ?_⟩
    cases o1 with
    | none =>
      refine iteT' rfl ?_
      refine ⟨_, rfl, _, rfl, (by show 2 ≤ sizeLine; decide), fun t nt => ?_⟩
      refine ⟨by show 1 ≤ 1000; decide, fun e ne => ⟨e, .ref t, rfl, upd_same, fun dd nd hd => ⟨rfl, dd, [("value", .ref t)], upd_same, by rw [upd_ne hd, upd_same], by rw [← nd, upd_ne hd], ?_⟩⟩⟩
      exact raised (R := fun dd H' => E (.ref A.c_BadStretch) (some dd) H') nt ne nd hd (k2 fine1)
    | some p =>
    refine iteF' rfl ?_
    obtain ⟨t2, x2, e2⟩ := h2.ty T
    refine ⟨_, rfl, _, _, _, _, _, rfl, .own _, x2, e2, _, rfl, ?_⟩
    cases o2 with
    | none =>
      refine iteT' rfl ?_
      refine ⟨_, rfl, _, rfl, (by show 2 ≤ sizeLine; decide), fun t nt => ?_⟩
      refine ⟨by show 1 ≤ 1000; decide, fun e ne => ⟨e, .ref t, rfl, upd_same, fun dd nd hd => ⟨rfl, dd, [("value", .ref t)], upd_same, by rw [upd_ne hd, upd_same], by rw [← nd, upd_ne hd], ?_⟩⟩⟩
      exact raised (R := fun dd H' => E (.ref A.c_BadStretch) (some dd) H') nt ne nd hd (k2 fine2)
    | some q =>
    refine iteF' rfl ?_
    obtain ⟨t3, x3, e3⟩ := h3.ty T
    refine ⟨_, rfl, _, _, _, _, _, rfl, .ty _, x3, e3, _, rfl, ?_⟩
    cases o3 with
    | none =>
      refine iteT' rfl ?_
      refine ⟨_, rfl, _, rfl, (by show 2 ≤ sizeLine; decide), fun t nt => ?_⟩
      refine ⟨by show 1 ≤ 1000; decide, fun e ne => ⟨e, .ref t, rfl, upd_same, fun dd nd hd => ⟨rfl, dd, [("value", .ref t)], upd_same, by rw [upd_ne hd, upd_same], by rw [← nd, upd_ne hd], ?_⟩⟩⟩
      exact raised (R := fun dd H' => E (.ref A.c_BadStretch) (some dd) H') nt ne nd hd (k2 fine3)
    | some b1 =>
    refine iteF' rfl ?_
    obtain ⟨t4, x4, e4⟩ := h4.ty T
    refine ⟨_, rfl, _, _, _, _, _, rfl, .ty _, x4, e4, _, rfl, ?_⟩
    cases o4 with
    | none =>
      refine iteT' rfl ?_
      refine ⟨_, rfl, _, rfl, (by show 2 ≤ sizeLine; decide), fun t nt => ?_⟩
      refine ⟨by show 1 ≤ 1000; decide, fun e ne => ⟨e, .ref t, rfl, upd_same, fun dd nd hd => ⟨rfl, dd, [("value", .ref t)], upd_same, by rw [upd_ne hd, upd_same], by rw [← nd, upd_ne hd], ?_⟩⟩⟩
      exact raised (R := fun dd H' => E (.ref A.c_BadStretch) (some dd) H') nt ne nd hd (k2 fine4)
    | some b2 =>
    refine iteF' rfl ?_
    obtain ⟨lo, rfl, hp, bp⟩ := h1
    obtain ⟨hi, rfl, hq, bq⟩ := h2
    cases (show y3 = V.bl b1 from h3)
    cases (show y4 = V.bl b2 from h4)
    have nlo := num_ne_ins hp ho
    have nhi := num_ne_ins hq ho
    refine ⟨fun σ' H' => (σ' = [some (.ref o), some (.ref lo), some (.ref hi), some (.bl b1), some (.bl b2)] ∧ H = H') ∧ fine (some p) (some q) (some b1) (some b2) = true, ?_, ?_⟩
    · refine ⟨_, rfl, hi, _, _, rfl, hq.choose_spec, nf_no _ (by decide +kernel) (by decide +kernel), _, rfl, hi, lo, q, p, rfl, hq, hp, bq.mono (by decide), bp.mono (by decide), _, rfl, ?_⟩
      refine ite2 (fun h => ?_) (fun h => ?_)
      · have h := of_decide_eq_true h
        have n1 : ¬ p < q := by grind
        have n2 : ¬ p = q := by grind
        have fz : fine (some p) (some q) (some b1) (some b2) = false := by simp [fine, n1, n2]
        refine ⟨_, rfl, _, rfl, (by show 2 ≤ sizeLine; decide), fun t nt => ?_⟩
        refine ⟨by show 1 ≤ 1000; decide, fun e ne => ⟨e, .ref t, rfl, upd_same, fun dd nd hd => ⟨rfl, dd, [("value", .ref t)], upd_same, by rw [upd_ne hd, upd_same], by rw [← nd, upd_ne hd], ?_⟩⟩⟩
        exact raised (R := fun dd H' => E (.ref A.c_BadStretch) (some dd) H') nt ne nd hd (k2 fz)
      have h : ¬ q < p := fun z => h (decide_eq_true z)
      refine ⟨_, rfl, _, rfl, lo, _, _, _, rfl, hp.choose_spec, .base (.ins hq.choose_spec T.cl_Number T.ca_Number T.cn T.ct T.cm_Number), (by simp [PySem.W.notFirst]), lo, hi, p, q, rfl, hp, hq, _, rfl, ?_⟩
      refine ite2 (fun h => ?_) (fun g => ?_)
      · have h := of_decide_eq_true h
        subst h
        have lt : ¬ p < p := by grind
        refine ⟨_, rfl, _, rfl, ?_⟩
        cases b1 with
        | false =>
          refine iteF' rfl ?_
          refine iteT' rfl ?_
          refine ⟨_, rfl, _, rfl, (by show 2 ≤ sizeLine; decide), fun t nt => ?_⟩
          refine ⟨by show 1 ≤ 1000; decide, fun e ne => ⟨e, .ref t, rfl, upd_same, fun dd nd hd => ⟨rfl, dd, [("value", .ref t)], upd_same, by rw [upd_ne hd, upd_same], by rw [← nd, upd_ne hd], ?_⟩⟩⟩
          exact raised (R := fun dd H' => E (.ref A.c_BadStretch) (some dd) H') nt ne nd hd (k2 (by simp [fine, lt]))
        | true =>
        refine iteT' rfl ?_
        refine ⟨_, rfl, _, rfl, ?_⟩
        cases b2 with
        | false =>
          refine iteT' rfl ?_
          refine ⟨_, rfl, _, rfl, (by show 2 ≤ sizeLine; decide), fun t nt => ?_⟩
          refine ⟨by show 1 ≤ 1000; decide, fun e ne => ⟨e, .ref t, rfl, upd_same, fun dd nd hd => ⟨rfl, dd, [("value", .ref t)], upd_same, by rw [upd_ne hd, upd_same], by rw [← nd, upd_ne hd], ?_⟩⟩⟩
          exact raised (R := fun dd H' => E (.ref A.c_BadStretch) (some dd) H') nt ne nd hd (k2 (by simp [fine, lt]))
        | true => exact iteF' rfl ⟨⟨rfl, rfl⟩, by simp [fine]⟩
      · have g : ¬ p = q := fun z => g (decide_eq_true z)
        have lt : p < q := by grind
        exact iteF' rfl ⟨⟨rfl, rfl⟩, by simp [fine, lt]⟩
    rintro σ' H' ⟨⟨rfl, rfl⟩, gd⟩
    refine ⟨_, rfl, _, rfl, o, A.c_Stretch, dx, [], rfl, ho, T.cl_Stretch, T.n_Stretch_own_low, (by decide), ?_⟩
    dsimp only
    refine ⟨_, rfl, _, rfl, o, A.c_Stretch, dx, _, rfl, upd_same, T.cl_Stretch, T.n_Stretch_own_high, (by show 1 < 1000; decide), ?_⟩
    dsimp only
    rw [upd_upd]
    refine ⟨_, rfl, _, rfl, o, A.c_Stretch, dx, _, rfl, upd_same, T.cl_Stretch, T.n_Stretch_includes_low, (by show _ < 1000; simp only [putF]; rw [if_neg (by decide +kernel)]; show 2 < 1000; decide), ?_⟩
    dsimp only
    rw [upd_upd]
    refine ⟨_, rfl, _, rfl, o, A.c_Stretch, dx, _, rfl, upd_same, T.cl_Stretch, T.n_Stretch_includes_high, (by simp only [putF]; repeat rw [if_neg (by decide +kernel)]; show 3 < 1000; decide), ?_⟩
    dsimp only
    rw [upd_upd]
    generalize hf4 : putF "includes_high" (V.bl b2) (putF "includes_low" (V.bl b1) (putF "own_high" (V.ref hi) (putF "own_low" (V.ref lo) []))) = f4
    have l4 : f4.length < 1000 := by
      rw [← hf4]
      simp only [putF]
      repeat rw [if_neg (by decide +kernel)]
      show 4 < 1000
      decide
    have sb := but_upd (p := o) (H := H) (o := .ins A.c_Stretch dx f4)
    have hp1 := hp.upn (u := .ins A.c_Stretch dx f4) nlo
    have hq1 := hq.upn (u := .ins A.c_Stretch dx f4) nhi
    have eo : (upd H o (.ins A.c_Stretch dx f4)) o = some (.ins A.c_Stretch dx f4) := upd_same
    generalize upd H o (.ins A.c_Stretch dx f4) = H1 at *
    refine ⟨_, rfl, _, rfl, lo, _, _, hi, _, _, rfl, rfl, hp1.choose_spec, hq1.choose_spec, lo, hi, p, q, rfl, hp1, hq1, bp.mono (by decide), bq.mono (by decide), fun x H2 s2 n2 h2 => ?_⟩
    refine ⟨x, _, _, rfl, h2.choose_spec, nf_no _ (by decide +kernel) (by decide +kernel), 2, rfl, fun y H3 s3 n3 h3 => ?_⟩
    have b2' : Bd 2 (Rat.divInt 2 1) := ⟨by decide, by decide⟩
    refine ⟨x, y, p + q, Rat.divInt 2 1, rfl, h2.mono s3, h3, (bp.add bq).mono (by decide), b2'.mono (by decide), by decide, fun z H4 s4 n4 h4 => ?_⟩
    have s14 := (s2.trans s3).trans s4
    refine ⟨_, rfl, o, A.c_Stretch, dx, f4, rfl, s14 _ _ eo, T.cl_Stretch, T.n_Stretch_own_middle, l4, ?_⟩
    rw [half_eq] at h4
    have nz : z ≠ o := fun e => by
      rw [e] at n4
      have q4 := (s2.trans s3) _ _ eo
      rw [n4] at q4
      cases q4
    refine k1 lo hi p q b1 b2 rfl rfl rfl rfl rfl rfl gd z _ ((sb.same s14).trans but_upd) ?_ (h4.upn nz)
    rw [← hf4, sf_put, upd_same]
end
/-! ### stretch_in -/
theorem ixKd {X : Cx} {K : PySem.W.Frag} {w : World} (h : X.K = K := by rfl) (hw : X.w = w := by rfl) : IxR X (rIxD K w) := by
  subst h
  subst hw
  exact ix_kdict
theorem atI_zero (c : Nat) (r : List Nat) : atI (c :: r) 0 = some c := by
  have := atI_nat (xs := c :: r) (j := 0) (v := c) rfl
  exact this
theorem atI_end {l : List Nat} {c : Nat} (h : l.getLast? = some c) : atI l (-1) = some c := by
  have hne : l ≠ [] := fun e => by rw [e] at h; cases h
  have e := List.dropLast_concat_getLast hne
  have e2 : l.getLast hne = c := by
    rw [List.getLast?_eq_some_getLast hne] at h
    exact Option.some.inj h
  rw [e2] at e
  rw [← e]
  exact atI_last _ _
theorem e91 : ("[" : Str) = S [91] := by decide +kernel
theorem e40 : ("(" : Str) = S [40] := by decide +kernel
theorem e93 : ("]" : Str) = S [93] := by decide +kernel
theorem e41 : (")" : Str) = S [41] := by decide +kernel
theorem kd_none {K : PySem.W.Frag} {d : Addr} {es : Array DictEntry} {n : Nat} {x y z : Str} {t1 t2 : Tok} {h1 h2 : _} {v1 v2 : Value} (hl : K.lookup d = some ⟨.type "dict", none, .dict es n, #[]⟩) (he : es.toList = [⟨h1, .str x t1, v1⟩, ⟨h2, .str y t2, v2⟩]) (n1 : (x == z) = false) (n2 : (y == z) = false) : PySem.W.nsIn K d z = some none := by
  unfold PySem.W.nsIn
  rw [hl]
  dsimp only
  rw [he]
  simp [List.find?, Value.isStr, n1, n2, DictEntry.refKey]
theorem S1_ne {a c : Nat} (h : a ≠ c) : (S [a] == S [c]) = false := by
  rw [show (S [a] == S [c]) = decide ([a] = [c]) from SX.S_beq_eq]
  simp [h]
/-- a Stretch, or None -/
def StrO (A : Ad) (H : Hp) (v : V) : Option (Rat × Rat × Bool × Bool) → Prop
  | some (p, q, b1, b2) => ∃ a, v = .ref a ∧ Strh A H a p q b1 b2 ∧ WM.Bd 120 p ∧ WM.Bd 120 q
  | none => v = .non
def strOf (l : List Nat) : List (List Nat) → Option (Rat × Rat × Bool × Bool)
  | [a, c] => match opens l.head?, closes l.getLast?, readNum a, readNum c with
    | some b1, some b2, some p, some q => if good4 p q b1 b2 then some (p, q, b1, b2) else none
    | _, _, _, _ => none
  | _ => none
theorem readStr_of (l : List Nat) : readStr l = strOf l (TL.spl [32] 0 [] (l.drop 1).dropLast) := by
  unfold readStr strOf
  rfl
theorem not_two {l : List Nat} {ws : List (List Nat)} (h : ws.length ≠ 2) : strOf l ws = none := by
  match ws, h with
  | [], _ => rfl
  | [_], _ => rfl
  | [_, _], h => exact absurd rfl h
  | _ :: _ :: _ :: _, _ => rfl
theorem len2 {α : Type} {ws : List α} (h : ws.length = 2) : ∃ a c, ws = [a, c] := by
  match ws, h with
  | [a, c], _ => exact ⟨a, c, rfl⟩
section
variable {P : Program} {w : World} {K : PySem.W.Frag} {mg : Str → Option Value} {base : Heap} {A : Ad}
theorem open_at (TW : TxtW w K mg A) (c : Nat) : ∃ r, PySem.W.nsIn K A.D_OPENING (S [c]) = some r ∧ r.isSome = (opens (some c)).isSome ∧ ∀ b, opens (some c) = some b → KDct K w A.D_OPENING (S [c]) (.bl b) := by
  have T := TW.t
  by_cases h1 : c = 91
  · subst h1
    have f := T.dv_OPENING_0
    rw [e91] at f
    exact ⟨_, f, rfl, fun b e => by cases e; exact ⟨_, _, _, TW.k_OPENING.at_, TW.k_OPENING.lit, f, rfl⟩⟩
  by_cases h2 : c = 40
  · subst h2
    have f := T.dv_OPENING_1
    rw [e40] at f
    exact ⟨_, f, rfl, fun b e => by cases e; exact ⟨_, _, _, TW.k_OPENING.at_, TW.k_OPENING.lit, f, rfl⟩⟩
  obtain ⟨_, _, _, _, he⟩ := T.de_OPENING
  have eo : opens (some c) = none := by
    show (if c = 91 then some true else if c = 40 then some false else none) = none
    rw [if_neg h1, if_neg h2]
  refine ⟨none, kd_none TW.k_OPENING.at_ he (by rw [e91]; exact S1_ne (Ne.symm h1)) (by rw [e40]; exact S1_ne (Ne.symm h2)), (by rw [eo]; rfl), fun b e => by rw [eo] at e; cases e⟩
theorem close_at (TW : TxtW w K mg A) (c : Nat) : ∃ r, PySem.W.nsIn K A.D_CLOSING (S [c]) = some r ∧ r.isSome = (closes (some c)).isSome ∧ ∀ b, closes (some c) = some b → KDct K w A.D_CLOSING (S [c]) (.bl b) := by
  have T := TW.t
  by_cases h1 : c = 93
  · subst h1
    have f := T.dv_CLOSING_0
    rw [e93] at f
    exact ⟨_, f, rfl, fun b e => by cases e; exact ⟨_, _, _, TW.k_CLOSING.at_, TW.k_CLOSING.lit, f, rfl⟩⟩
  by_cases h2 : c = 41
  · subst h2
    have f := T.dv_CLOSING_1
    rw [e41] at f
    exact ⟨_, f, rfl, fun b e => by cases e; exact ⟨_, _, _, TW.k_CLOSING.at_, TW.k_CLOSING.lit, f, rfl⟩⟩
  obtain ⟨_, _, _, _, he⟩ := T.de_CLOSING
  have eo : closes (some c) = none := by
    show (if c = 93 then some true else if c = 41 then some false else none) = none
    rw [if_neg h1, if_neg h2]
  refine ⟨none, kd_none TW.k_CLOSING.at_ he (by rw [e93]; exact S1_ne (Ne.symm h1)) (by rw [e41]; exact S1_ne (Ne.symm h2)), (by rw [eo]; rfl), fun b e => by rw [eo] at e; cases e⟩
theorem kb_Stretch_has_low_has_high (T : Txt K mg A) : KBn K A.d_Stretch_init ["self", "low", "high", "has_low", "has_high"] 3 ["has_low", "has_high"] (fun us ws => us ++ ws) (fun vs zs => vs ++ zs) := by
  obtain ⟨mv, h⟩ := T.F_Stretch_init.kbinds0 (ps := ["self", "low", "high", "has_low", "has_high"]) 3 ["has_low", "has_high"] [] (fun us _ ws => us ++ ws) (by simp) (fun q h => nomatch h) (fun r1 _ r3 => r1.append r3) (fun D doc pm an cd ct us mv ws h1 h2 h3 => by
    match us, h1, mv, h2, ws, h3 with
    | [_, _, _], _, [], _, [_, _], _ => rfl)
  exact h
def spStrIn (A : Ad) : Sp := fun vs H Q _ => ∃ l : List Nat, vs = [.str (S l)] ∧ l.length ≤ 10000 ∧ ∀ r H', Same H H' → StrO A H' r (readStr l) → Q r H'
theorem ok_stretch_in (TW : TxtW w K mg A) : FnOk PP w K mg base CX0 8 A.f_stretch_in A.d_stretch_in ["text"] (spStrIn A) := by
  have T := TW.t
  refine T.F_stretch_in.ok sc_stretch_in (fun vs H Q E h => ?_) (fun cdv B outer s H vs Q E hr h => ?_)
  · obtain ⟨l, rfl, _⟩ := h
    rfl
  · obtain ⟨l, rfl, hl, k⟩ := h
    have hr5 : Room 5 _ := hr.mono (by decide)
    have hr7 : Room 7 _ := hr.mono (by decide)
    refine ⟨_, (pss_cons (ps_set (i := 1) sc_stretch_in.nd rfl (Or.inl rfl) (pe_split (pe_slice sl_str (pv 0) (po_some pe_int) (po_some (pe_un un_neg pe_int))) (C8.pe_gc (by rfl) T.g_BLANK)))
      (pss_cons (ps_if (PW.pt (pw_or (pt_cmpR op_ne (pe_callB call_len_seq (by rfl) T.z_len (by decide +kernel) (pa_cons (pv 1) pa_nil)) pe_int (nomark _)) (pw_or (pt_cmpR (op_notIn_kd TW.k_OPENING) (pe_ix ix_str (pv 0) pe_int (fun _ _ => rfl)) (pe_glob (v := .ref A.D_OPENING) (by rfl) T.g_OPENING rfl) (by rfl)) (pw_or1 (pt_cmpR (op_notIn_kd TW.k_CLOSING) (pe_ix ix_str (pv 0) (pe_un un_neg pe_int) (fun _ _ => rfl)) (pe_glob (v := .ref A.D_CLOSING) (by rfl) T.g_CLOSING rfl) (by rfl)))))) (pss_one (ps_ret pe_non)) pss_nil)
      (pss_cons (ps_par (i := 2) (j := 3) rfl sc_stretch_in.nd rfl rfl (by decide) rfl rfl (pa_cons (pe_call (ok_number_in T) hr5 rfl T.g_number_in T.F_number_in.kp T.b_number_in .nil pass0 (pa_cons (pe_ix ix_list (pv 1) pe_int (fun _ _ => rfl)) pa_nil)) (pa_cons (pe_call (ok_number_in T) hr5 rfl T.g_number_in T.F_number_in.kp T.b_number_in .nil pass0 (pa_cons (pe_ix ix_list (pv 1) pe_int (fun _ _ => rfl)) pa_nil)) pa_nil)) (by rfl))
      (pss_cons (ps_if (PW.pt (pw_or (pt_cmp (pc_isN (pv 2))) (pw_or1 (pt_cmp (pc_isN (pv 3)))))) (pss_one (ps_ret pe_non)) pss_nil)
      (pss_one (ps_try_only rfl rfl ⟨rfl, by decide, .inl T.g_BadStretch⟩ takes0 (fun W pn xe tk _ => pss_one (ps_ret (pe_makeKS T.M_Stretch (ok_Stretch_initX T) hr7 rfl T.g_Stretch (kb_Stretch_has_low_has_high T) (fun σ => passAt tk σ) (pa_cons (pv 2) (pa_cons (pv 3) pa_nil)) (pk_cons (pe_ix (ixKd (K := K) (w := w)) (pe_glob (v := .ref A.D_OPENING) (by rfl) T.g_OPENING rfl) (pe_ix ix_str (pv 0) pe_int (fun _ _ => rfl)) (fun _ _ => rfl)) (pk_cons (pe_ix (ixKd (K := K) (w := w)) (pe_glob (v := .ref A.D_CLOSING) (by rfl) T.g_CLOSING rfl) (pe_ix ix_str (pv 0) (pe_un un_neg pe_int) (fun _ _ => rfl)) (fun _ _ => rfl)) pk_nil))))) (fun a oe cls d pn _ _ => pss_one (ps_ret pe_non)))))))), ?_⟩
    refine ⟨_, rfl, _, rfl, _, rfl, _, rfl, _, rfl, by rw [len_S]; exact lt_line hl, ?_⟩
    rw [cut_mid]
    have hl2 : (l.drop 1).dropLast.length ≤ 10000 := by simp; omega
    refine ⟨⟨_, rfl⟩, _, _, rfl, rfl, by decide +kernel, by rw [len_S, sizeLine_eq]; omega, fun p np => ?_⟩
    rw [e32, SX.split_S (by simp) (by decide)]
    have s1 := same_new (o := .lst (((TL.spl [32] 0 [] (l.drop 1).dropLast).map SX.S).map V.str)) np
    have ep : (upd H p (.lst (((TL.spl [32] 0 [] (l.drop 1).dropLast).map SX.S).map V.str))) p = some (.lst (((TL.spl [32] 0 [] (l.drop 1).dropLast).map SX.S).map V.str)) := upd_same
    have lw := spl_len [32] (l.drop 1).dropLast 0 []
    rw [readStr_of] at k
    have hne : ∀ a c : List Nat, TL.spl [32] 0 [] (l.drop 1).dropLast = [a, c] → l ≠ [] := fun a c e z => by
      rw [z] at e
      cases e
    generalize TL.spl [32] 0 [] (l.drop 1).dropLast = ws at *
    generalize upd H p (.lst ((ws.map SX.S).map V.str)) = H1 at *
    refine stT (σ' := [some (.str (S l)), some (.ref p), none, none]) rfl ?_
    refine ⟨_, rfl, p, _, rfl, Or.inl (SqL.of ep), rfl, _, rfl, ?_⟩
    by_cases c2 : ws.length = 2
    case neg =>
      refine iteT' (by simp [c2]; omega) ?_
      rw [not_two c2] at k
      exact k _ _ s1 rfl
    refine iteF' (by simp [c2]) ?_
    obtain ⟨a, c, rfl⟩ := len2 c2
    have hne := hne a c rfl
    obtain ⟨c0, l0, rfl⟩ := List.exists_cons_of_ne_nil hne
    obtain ⟨cz, hz⟩ : ∃ cz, (c0 :: l0).getLast? = some cz := ⟨_, List.getLast?_eq_some_getLast hne⟩
    obtain ⟨r1, n1, i1, d1⟩ := open_at TW c0
    obtain ⟨r2, n2, i2, d2⟩ := close_at TW cz
    have k : ∀ r H', Same H H' → StrO A H' r (match opens (some c0), closes (c0 :: l0).getLast?, readNum a, readNum c with
      | some b1, some b2, some p, some q => if good4 p q b1 b2 then some (p, q, b1, b2) else none
      | _, _, _, _ => none) → Q r H' := k
    rw [hz] at k
    refine ⟨_, rfl, _, _, c0, rfl, rfl, by rw [len_S]; exact lt_line hl, atI_zero _ _, _, _, rfl, rfl, n1, _, rfl, ?_⟩
    rw [i1]
    cases eo : opens (some c0) with
    | none =>
      refine iteT' rfl ?_
      rw [eo] at k
      exact k _ _ s1 rfl
    | some b1 =>
    refine iteF' rfl ?_
    refine ⟨_, rfl, _, rfl, _, _, cz, rfl, rfl, by rw [len_S]; exact lt_line hl, atI_end hz, _, _, rfl, rfl, n2, _, rfl, ?_⟩
    rw [i2]
    cases ec : closes (some cz) with
    | none =>
      refine iteT' rfl ?_
      rw [eo, ec] at k
      exact k _ _ s1 rfl
    | some b2 =>
    refine iteF' rfl ?_
    rw [eo, ec] at k
    have la : a.length ≤ 10000 := by have := lw a (by simp); rw [List.length_nil, Nat.zero_add] at this; exact Nat.le_trans this hl2
    have lc : c.length ≤ 10000 := by have := lw c (by simp); rw [List.length_nil, Nat.zero_add] at this; exact Nat.le_trans this hl2
    refine ⟨_, rfl, p, _, _, _, rfl, rfl, SqL.of ep, rfl, a, rfl, la, fun x H2 s2 hx => ?_⟩
    have ep := s2 _ _ ep
    refine ⟨_, rfl, p, _, _, _, rfl, rfl, SqL.of ep, rfl, c, rfl, lc, fun y H3 s3 hy => ?_⟩
    have hx := hx.mono s3
    have sH := (s1.trans s2).trans s3
    refine ⟨_, _, rfl, ?_⟩
    refine stT (σ' := [some (.str (S (c0 :: l0))), some (.ref p), some (x), some (y)]) rfl ?_
    refine ⟨_, rfl, _, rfl, ?_⟩
    cases en : readNum a with
    | none =>
      rw [en] at hx k
      cases (show x = V.non from hx)
      refine iteT' (by simp) ?_
      exact k _ _ sH rfl
    | some u =>
    rw [en] at hx
    obtain ⟨xa, rfl, hx, bx⟩ := hx
    refine iteF' (by simp) ?_
    refine ⟨_, rfl, _, rfl, ?_⟩
    cases em : readNum c with
    | none =>
      rw [en, em] at k
      rw [em] at hy
      cases (show y = V.non from hy)
      refine iteT' (by simp) ?_
      exact k _ _ sH rfl
    | some v =>
    rw [em] at hy
    obtain ⟨ya, rfl, hy, bY⟩ := hy
    refine iteF' (by simp) ?_
    rw [en, em] at k
    have k : ∀ r H', Same H H' → StrO A H' r (if good4 u v b1 b2 then some (u, v, b1, b2) else none) → Q r H' := k
    refine ⟨_, rfl, _, rfl, _, rfl, _, _, c0, rfl, rfl, by rw [len_S]; exact lt_line hl, atI_zero _ _, _, _, _, rfl, rfl, d1 b1 eo, _, rfl, _, rfl, _, _, cz, rfl, rfl, by rw [len_S]; exact lt_line hl, atI_end hz, _, _, _, rfl, rfl, d2 b2 ec, rfl, rfl, fun z dz nz ndz nez => ?_⟩
    have sz : Same H3 (upd (upd H3 dz (.own z)) z (.ins A.c_Stretch dz [])) := fun c u e => by
      rw [upd_ne (ne_of_none e nz), upd_ne (ne_of_none e ndz)]
      exact e
    refine ⟨z, dz, .ref xa, .ref ya, .bl b1, .bl b2, some u, some v, some b1, some b2, rfl, ⟨xa, rfl, hx.mono sz, bx.mono (by decide)⟩, ⟨ya, rfl, hy.mono sz, bY.mono (by decide)⟩, rfl, rfl, upd_same, fun lo hi p' q' b1' b2' e1 e2 f1 f2 f3 f4 gd mi H4 sb e hm => ⟨rfl, ?_⟩, fun fz dd t H4 s4 et ed => ?_⟩
    · cases e1
      cases e2
      cases f1
      cases f2
      cases f3
      cases f4
      obtain ⟨s5, hs⟩ := made_str nz ndz sb e hx hy hm
      have gd : good4 u v b1 b2 = true := gd
      rw [if_pos gd] at k
      exact k _ _ (sH.trans s5) ⟨z, rfl, hs, bx.mono (by decide), bY.mono (by decide)⟩
    · have fz : good4 u v b1 b2 = false := fz
      rw [if_neg (by rw [fz]; decide)] at k
      exact ⟨true, T.em_BadStretch_BadStretch, fun _ a na => k _ _ ((sH.trans sz).trans s4) rfl, fun z => nomatch z⟩
end
section
variable {P : Program} {w : World} {K : PySem.W.Frag} {mg : Str → Option Value} {base : Heap} {A : Ad}
/-- _law_pot(script, k) -/
def spPot (K : PySem.W.Frag) : Sp := fun vs H Q _ => ∃ (a : Addr) (ns : List Int) (k : Int), vs = [.ref a, .int k] ∧ SqL K H a (ns.map V.int) ∧ 0 ≤ k ∧ k ≤ 100 ∧ ∀ p H', Same H H' → H p = none → Pot H' p 0 → Q (.ref p) H'
theorem ok_law_pot (T : Txt K mg A) : FnOk P w K mg base CX0 1 A.f_law_pot A.d_law_pot ["script", "k"] (spPot K) := by
  refine T.F_law_pot.ok sc_law_pot (fun vs H Q E h => ?_) (fun cdv B outer s H vs Q E hr h => ?_)
  · obtain ⟨a, ns, k, rfl, _⟩ := h
    rfl
  · obtain ⟨a, ns, k, rfl, hS, k0, k1, kq⟩ := h
    refine ⟨_, pss_cons (ps_set (i := 2) sc_law_pot.nd rfl (Or.inl rfl) (pe_ifExp (pt_cmpR op_lt (pv 1) (pe_callB call_len_seq (by rfl) T.z_len (by decide +kernel) (pa_cons (pv 0) pa_nil)) (nomark _))
        (pe_ix ix_list (pv 0) (pv 1) (fun _ _ => rfl)) (pe_op op_add (pe_op op_mul pe_int (pv 1)) pe_int)))
      (pss_cons (ps_set (i := 3) sc_law_pot.nd rfl (Or.inl rfl) (pe_op op_mul (pe_op op_mod (pe_callTy call_int1 (by rfl) T.z_int (by decide +kernel) (pa_cons (pe_callB call_abs (by rfl) T.z_abs (by decide +kernel) (pa_cons (pv 2) pa_nil)) pa_nil))
          (pe_op op_powW (pe_op op_powW pe_int pe_int) pe_int)) (pe_callTy call_int1 (by rfl) T.z_int (by decide +kernel) (pa_cons (pe_cmpR op_ge (pe_callB call_abs (by rfl) T.z_abs (by decide +kernel) (pa_cons (pv 2) pa_nil)) (pe_op op_powW pe_int pe_int) (nomark _)) pa_nil))))
      (pss_cons (ps_set (i := 4) sc_law_pot.nd rfl (Or.inl rfl) (pe_op op_add (pe_op op_add (pe_op op_mul (pe_op op_mod (pe_callTy call_int1 (by rfl) T.z_int (by decide +kernel) (pa_cons (pv 2) pa_nil)) pe_int) pe_int) (pe_op op_mul (pe_op op_mul pe_int (pv 1)) (pv 1))) pe_int))
      (pss_one (ps_ret (pe_lst (pa_cons (pv 3) (pa_cons (pe_op op_mod (pe_callTy call_int1 (by rfl) T.z_int (by decide +kernel) (pa_cons (pv 4) pa_nil)) pe_int) (pa_cons pe_int pa_nil)))))))), ?_⟩
    refine with_int (fun rest => ?_) (fun cell => ?_)
    · refine ⟨_, rfl, _, rfl, a, _, rfl, Or.inl hS, _, _, rfl, rfl, _, rfl, ?_⟩
      refine ite2 (fun e => ?_) (fun e => ?_)
      · have hk := of_decide_eq_true e
        have hk' : k < (ns.map V.int).length := hk
        obtain ⟨v, hv, hm⟩ := at_mem (xs := ns.map V.int) k0 hk'
        obtain ⟨n, _, rfl⟩ := List.mem_map.mp hm
        exact ⟨_, rfl, _, rfl, a, _, _, _, rfl, rfl, hS, hv, rest n⟩
      · exact ⟨_, rfl, _, _, rfl, rfl, Or.inl (by decide), _, _, rfl, rfl, rest _⟩
    · refine ⟨_, rfl, _, rfl, Or.inl ⟨_, rfl, _, _, rfl, rfl, ⟨by decide, by decide⟩, _, _, rfl, rfl, ⟨by decide, by decide +kernel⟩, _, _, rfl, rfl, Int.pow_pos (Int.pow_pos (by decide)), ?_⟩⟩
      refine ⟨_, rfl, _, rfl, _, _, rfl, rfl, ⟨by decide, by decide⟩, _, _, rfl, rfl, Or.inr ⟨_, rfl, _, _, rfl, rfl, Or.inr (bit_lt _), ?_⟩⟩
      refine ⟨_, rfl, Or.inl ⟨_, rfl, _, _, rfl, rfl, (by show (0 : Int) < 2305843009213693951; decide), _, _, rfl, rfl, Or.inr (by decide), _, rfl, _, _, rfl, rfl, Or.inl (by decide), _, rfl, _, _, rfl, rfl, Or.inr ⟨by omega, by omega⟩, _, _, rfl, rfl, _, _, rfl, rfl, ?_⟩⟩
      refine ⟨_, rfl, _, rfl, Or.inl ⟨_, rfl, _, _, rfl, rfl, (by show (0 : Int) < 2305843009213693921; decide), ?_⟩⟩
      refine ⟨by show 3 ≤ sizeLine; decide, fun p hp => ?_⟩
      refine kq p _ (same_new hp) hp ⟨_, _, _, upd_same, ?_, Int.emod_nonneg _ (by decide), Int.emod_lt_of_pos _ (by decide), Int.le_refl _, by decide⟩
      exact Int.mul_nonneg (Int.emod_nonneg _ (Int.ne_of_gt (Int.pow_pos (Int.pow_pos (by decide))))) (bit_nn _)
end
section
variable {P : Program} {w : World} {K : PySem.W.Frag} {mg : Str → Option Value} {base : Heap} {A : Ad}
/-- _law_take(pot, upto): some number from 0 to upto - 1 -/
def spTake : Sp := fun vs H Q _ => ∃ (p : Addr) (u : Int) (n : Nat), vs = [.ref p, .int u] ∧ 0 < u ∧ u.natAbs < 2 ^ 9000 ∧ Pot H p n ∧ n ≤ 100000 ∧ ∀ r H', 0 ≤ r → r < u → Pot H' p (n + 1) → SameBut p H H' → Q (.int r) H'
theorem ok_law_take (T : Txt K mg A) : FnOk P w K mg base CX0 1 A.f_law_take A.d_law_take ["pot", "upto"] spTake := by
  refine T.F_law_take.ok sc_law_take (fun vs H Q E h => ?_) (fun cdv B outer s H vs Q E hr h => ?_)
  · obtain ⟨p, u, n, rfl, _⟩ := h
    rfl
  · obtain ⟨p, u, n, rfl, u0, u1, ⟨own, mix, c, hp, o0, m0, m1, c0, c1⟩, hn, k⟩ := h
    refine ⟨_, pss_cons (ps_if (pt_cmpR op_gt (pe_ix ix_list (pv 0) pe_int (fun _ _ => rfl)) pe_int (nomark _))
        (pss_cons (ps_set (i := 2) sc_law_take.nd rfl (Or.inl rfl) (pe_op op_mod (pe_callTy call_int1 (by rfl) T.z_int (by decide +kernel) (pa_cons (pe_ix ix_list (pv 0) pe_int (fun _ _ => rfl)) pa_nil)) (pv 1)))
        (pss_cons (ps_asg (pe_op op_fdivG (pe_ix ix_list (pv 0) pe_int (fun _ _ => rfl)) (pv 1)) (pg_sub (pv 0) pe_int set_list))
        (pss_one (ps_ret (pv 2))))) pss_nil)
      (pss_cons (ps_asg (pe_op op_add (pe_ix ix_list (pv 0) pe_int (fun _ _ => rfl)) pe_int) (pg_sub (pv 0) pe_int set_list))
      (pss_cons (ps_set (i := 3) sc_law_take.nd rfl (Or.inl rfl) (pe_ix ix_list (pe_lst (pa_cons pe_int (pa_cons pe_int (pa_cons pe_int (pa_cons pe_int (pa_cons pe_int pa_nil))))))
          (pe_op op_mod (pe_callTy call_int1 (by rfl) T.z_int (by decide +kernel) (pa_cons (pe_ix ix_list (pv 0) pe_int (fun _ _ => rfl)) pa_nil)) pe_int) (fun _ _ => rfl)))
      (pss_cons (ps_set (i := 4) sc_law_take.nd rfl (Or.inl rfl) (pe_op op_mod (pe_callTy call_int1 (by rfl) T.z_int (by decide +kernel) (pa_cons (pe_op op_pow (pe_callTy call_int1 (by rfl) T.z_int (by decide +kernel) (pa_cons (pe_op op_add (pe_op op_add (pe_ix ix_list (pv 0) pe_int (fun _ _ => rfl)) (pe_op op_mul (pe_op op_mul pe_int (pe_ix ix_list (pv 0) pe_int (fun _ _ => rfl))) (pe_ix ix_list (pv 0) pe_int (fun _ _ => rfl)))) pe_int) pa_nil)) pe_int) pa_nil)) (pv 3)))
      (pss_cons (ps_set (i := 4) sc_law_take.nd rfl (Or.inl rfl) (pe_op op_mod (pe_callTy call_int1 (by rfl) T.z_int (by decide +kernel) (pa_cons (pe_op op_mul (pv 4) (pe_op op_add (pe_op op_mod (pe_callTy call_int1 (by rfl) T.z_int (by decide +kernel) (pa_cons (pv 4) pa_nil)) pe_int) (pe_op op_mul pe_int (pe_ix ix_list (pv 0) pe_int (fun _ _ => rfl))))) pa_nil)) pe_int))
      (pss_one (ps_ret (pe_op op_mod (pe_callTy call_int1 (by rfl) T.z_int (by decide +kernel) (pa_cons (pe_op op_fdiv (pv 4) pe_int) pa_nil)) (pv 1)))))))), ?_⟩
    refine ⟨_, rfl, p, _, _, _, rfl, rfl, SqL.of hp, rfl, _, _, rfl, rfl, _, rfl, ?_⟩
    refine ite2 (fun e => ?_) (fun e => ?_)
    · have ho : 0 < own := of_decide_eq_true e
      refine ⟨_, rfl, p, _, _, _, rfl, rfl, SqL.of hp, rfl, Or.inl ⟨_, rfl, _, rfl, _, _, rfl, rfl, u0, ?_⟩⟩
      refine ⟨_, rfl, p, _, _, _, rfl, rfl, SqL.of hp, rfl, _, rfl, _, _, rfl, rfl, ⟨by omega, log2_lt (by decide) u1⟩, _, rfl, ?_⟩
      refine ⟨p, _, _, 0, rfl, rfl, hp, rfl, _, rfl, ?_⟩
      refine k _ _ (Int.emod_nonneg _ (by omega)) (Int.emod_lt_of_pos _ u0) ⟨_, _, _, upd_same, ?_, m0, m1, c0, by omega⟩ but_upd
      rw [Int.fdiv_eq_ediv_of_nonneg _ (by omega)]
      exact Int.ediv_nonneg o0 (by omega)
    · refine ⟨_, rfl, p, _, _, _, rfl, rfl, SqL.of hp, rfl, _, _, rfl, rfl, _, rfl, p, _, _, 2, rfl, rfl, hp, rfl, ?_⟩
      refine ⟨by show 5 ≤ sizeLine; decide, fun l hl => ?_⟩
      have npl : p ≠ l := ne_of_none upd_same hl
      have hp1 : ∀ {o : HO}, (upd (upd H p (.lst [.int own, .int mix, .int (c + 1)])) l o) p = some (.lst [.int own, .int mix, .int (c + 1)]) := by
        intro o
        rw [upd_ne npl]
        exact upd_same
      obtain ⟨pr, e1, e2, e3⟩ := prime_at (c + 1) (by omega)
      refine ⟨_, rfl, p, _, _, _, rfl, rfl, SqL.of hp1, rfl, Or.inl ⟨_, rfl, _, _, rfl, rfl, (by show (0 : Int) < 5; decide), l, _, _, _, rfl, rfl, SqL.of upd_same, e1, ?_⟩⟩
      have hc : (c + 1) * (c + 1) ≤ 100001 * 100001 := Int.mul_le_mul (by omega) (by omega) (by omega) (by decide)
      have hc' : 0 ≤ (c + 1) * (c + 1) := Int.mul_nonneg (by omega) (by omega)
      have hcc : 99839 * (c + 1) * (c + 1) = 99839 * ((c + 1) * (c + 1)) := Int.mul_assoc _ _ _
      refine ⟨_, rfl, p, _, _, _, rfl, rfl, SqL.of hp1, rfl, _, rfl, p, _, _, _, rfl, rfl, SqL.of hp1, rfl, _, _, rfl, rfl, Or.inl (by decide), _, rfl, p, _, _, _, rfl, rfl, SqL.of hp1, rfl, _, _, rfl, rfl, Or.inr ⟨by omega, by omega⟩, _, _, rfl, rfl, _, _, rfl, rfl,
        Or.inl ⟨_, rfl, _, _, rfl, rfl, ⟨by decide, by decide, by omega⟩, Or.inl ⟨_, rfl, _, rfl, _, _, rfl, rfl, e2, ?_⟩⟩⟩
      have n0 := Int.emod_nonneg (((mix + 99839 * (c + 1) * (c + 1) + 43) ^ (3 : Int).toNat)) (show pr ≠ 0 by omega)
      have n1 := Int.emod_lt_of_pos (((mix + 99839 * (c + 1) * (c + 1) + 43) ^ (3 : Int).toNat)) e2
      refine ⟨_, rfl, _, rfl, Or.inl ⟨_, rfl, _, _, rfl, rfl, (by show (0 : Int) < 10009; decide), _, rfl, p, _, _, _, rfl, rfl, SqL.of hp1, rfl, _, _, rfl, rfl, Or.inl (by decide), _, _, rfl, rfl, _, _, rfl, rfl, Or.inl ⟨by omega, by omega⟩,
        Or.inl ⟨_, rfl, _, _, rfl, rfl, (by show (0 : Int) < 2305843009213693907; decide), ?_⟩⟩⟩
      refine ⟨_, rfl, _, _, rfl, rfl, ⟨by decide, by decide⟩, Or.inl ⟨_, rfl, _, rfl, _, _, rfl, rfl, u0, ?_⟩⟩
      refine k _ _ (Int.emod_nonneg _ (by omega)) (Int.emod_lt_of_pos _ u0) ⟨_, _, _, hp1, o0, m0, m1, by omega, by omega⟩ fun b o eb nb => ?_
      have hb2 : (upd H p (.lst [.int own, .int mix, .int (c + 1)])) b = some o := by rw [upd_ne nb]; exact eb
      rw [upd_ne (ne_of_none hb2 hl)]
      exact hb2
end
section
variable {P : Program} {w : World} {K : PySem.W.Frag} {mg : Str → Option Value} {base : Heap} {A : Ad}
/-- _law_of(pot, some): one of a list's items -/
def spOf : Sp := fun vs H Q _ => ∃ (p l : Addr) (xs : List V) (n : Nat), vs = [.ref p, .ref l] ∧ H l = some (.lst xs) ∧ l ≠ p ∧ xs ≠ [] ∧ xs.length ≤ 1000 ∧ Pot H p n ∧ n ≤ 100000 ∧ ∀ v H', v ∈ xs → Pot H' p (n + 1) → SameBut p H H' → Q v H'
theorem ok_law_of (T : Txt K mg A) : FnOk P w K mg base CX0 2 A.f_law_of A.d_law_of ["pot", "some"] spOf := by
  refine T.F_law_of.ok sc_law_of (fun vs H Q E h => ?_) (fun cdv B outer s H vs Q E hr h => ?_)
  · obtain ⟨p, l, xs, n, rfl, _⟩ := h
    rfl
  · obtain ⟨p, l, xs, n, rfl, hl, nlp, ne, hlen, hP, hn, k⟩ := h
    refine ⟨_, pss_one (ps_ret (pe_ix ix_list (pv 1) (pe_call (ok_law_take T) hr rfl T.g_law_take T.F_law_take.kp T.b_law_take .nil pass0 (pa_cons (pv 0) (pa_cons (pe_callB call_len_seq (by rfl) T.z_len (by decide +kernel) (pa_cons (pv 1) pa_nil)) pa_nil))) (fun _ _ => rfl))), ?_⟩
    have h0 : 0 < xs.length := List.length_pos_iff.mpr ne
    refine ⟨_, rfl, _, rfl, _, rfl, l, _, rfl, Or.inl (SqL.of hl), p, _, n, rfl, (by omega), ?_, hP, hn, fun r H' r0 r1 hP' sb => ?_⟩
    · have : ((xs.length : Int)).natAbs < 2 ^ 10 := by omega
      exact up_lt this (by decide)
    · obtain ⟨v, hv, hm⟩ := at_mem r0 r1
      exact ⟨l, _, _, _, rfl, rfl, SqL.of (sb _ _ hl nlp), hv, k v H' hm hP' sb⟩
end
/-! ### k93: draws -/
def PT (H : Hp) (r : Addr) (q : Rat) : Prop := H r = some (.tup [.int q.num, .int (q.den : Int)])
def D30 (q : Rat) : Prop := q.num.natAbs < 10 ^ 30 ∧ q.den < 10 ^ 30
theorem D30.bd {q : Rat} (h : D30 q) : Bd 100 q := ⟨Nat.lt_of_lt_of_le h.1 ten30, Nat.lt_of_lt_of_le h.2 ten30⟩
theorem low_le {t b : Int} (hb : b ≠ 0) : (Rat.divInt t b).num.natAbs ≤ t.natAbs ∧ (Rat.divInt t b).den ≤ b.natAbs := by
  refine ⟨?_, ?_⟩
  · rw [Rat.num_divInt]
    have hg : 0 < b.gcd t := gcd_pos hb
    have hd : ((b.gcd t : Nat) : Int) ∣ b.sign * t := Int.dvd_mul_of_dvd_right (Int.gcd_dvd_right ..)
    obtain ⟨k, hk⟩ := hd
    rw [ediv_dvd (k := k) (by omega) hk]
    have h3 : (b.sign * t).natAbs = t.natAbs := by
      rw [Int.natAbs_mul, Int.natAbs_sign_of_ne_zero hb, Nat.one_mul]
    have h4 : (b.sign * t).natAbs = b.gcd t * k.natAbs := by rw [hk, Int.natAbs_mul, Int.natAbs_natCast]
    rw [← h3, h4]
    exact Nat.le_mul_of_pos_left _ hg
  · rw [Rat.den_divInt, if_neg hb]
    exact Nat.div_le_self _ _
section
variable {P : Program} {w : World} {K : PySem.W.Frag} {mg : Str → Option Value} {base : Heap} {A : Ad}
def spDig : Sp := fun vs H Q _ => ∃ (p : Addr) (n : Nat), vs = [.ref p] ∧ Pot H p n ∧ n ≤ 90000 ∧ ∀ d H', 0 ≤ d → d < 10 ^ 29 + 10 ^ 20 → Pot H' p (n + 2) → SameBut p H H' → Q (.int d) H'
theorem ok_law_digits (T : Txt K mg A) : FnOk P w K mg base CX0 3 A.f_law_digits A.d_law_digits ["pot"] spDig := by
  refine T.F_law_digits.ok sc_law_digits (fun vs H Q E h => ?_) (fun cdv B outer s H vs Q E hr h => ?_)
  · obtain ⟨p, n, rfl, _⟩ := h
    rfl
  · obtain ⟨p, n, rfl, hP, hn, k⟩ := h
    have hr1 : Room 1 _ := hr.mono (by decide)
    have hr2 : Room 2 _ := hr.mono (by decide)
    refine ⟨_, (pss_cons (ps_set (i := 1) sc_law_digits.nd rfl (Or.inl rfl) (pe_call (ok_law_take T) hr1 rfl T.g_law_take T.F_law_take.kp T.b_law_take .nil pass0 (pa_cons (pv 0) (pa_cons pe_int pa_nil))))
      (pss_cons (ps_if (pt_cmpR op_lt (pv 1) pe_int (nomark _)) (pss_one (ps_ret (pe_call (ok_law_of T) hr2 rfl T.g_law_of T.F_law_of.kp T.b_law_of .nil pass0 (pa_cons (pv 0) (pa_cons (pe_lst (pa_cons pe_int (pa_cons pe_int (pa_cons pe_int (pa_cons pe_int (pa_cons pe_int (pa_cons pe_int (pa_cons pe_int (pa_cons pe_int (pa_cons pe_int (pa_cons pe_int (pa_cons pe_int pa_nil)))))))))))) pa_nil))))) pss_nil)
      (pss_one (ps_ret (pe_ifExp (pt_cmpR op_eq (pv 1) pe_int (nomark _)) (pe_op op_add (pe_op op_powW pe_int pe_int) (pe_call (ok_law_take T) hr1 rfl T.g_law_take T.F_law_take.kp T.b_law_take .nil pass0 (pa_cons (pv 0) (pa_cons (pe_op op_powW pe_int pe_int) pa_nil)))) (pe_call (ok_law_take T) hr1 rfl T.g_law_take T.F_law_take.kp T.b_law_take .nil pass0 (pa_cons (pv 0) (pa_cons (pe_op op_powW pe_int pe_int) pa_nil)))))))), ?_⟩
    refine ⟨_, rfl, p, 6, n, rfl, (by decide), up_lt (n := 9000) (show (6 : Int).natAbs < 2 ^ 8 by decide) (by decide), hP, (by omega), fun w H1 w0 w1 P1 s1 => ?_⟩
    refine stT (σ' := [some (.ref p), some (.int w)]) rfl ?_
    refine ⟨_, rfl, _, _, rfl, rfl, _, rfl, ?_⟩
    refine ite2 (fun _ => ?_) (fun _ => ?_)
    · refine ⟨_, rfl, by show 11 ≤ sizeLine; decide, fun l hl => ?_⟩
      obtain ⟨xs1, e1⟩ := P1.lst
      refine ⟨p, l, _, n + 1, rfl, upd_same, (ne_of_none e1 hl).symm, by simp, by show 11 ≤ 1000; decide, P1.same (same_new hl), (by omega), fun v H2 hv P2 s2 => ?_⟩
      have h1 : ∀ v ∈ ([V.int 0, V.int 1, V.int 2, V.int 3, V.int 4, V.int 6, V.int 9, V.int 10, V.int 12, V.int 100, V.int 999] : List V), ∃ d : Int, v = .int d ∧ 0 ≤ d ∧ d < 10 ^ 29 + 10 ^ 20 := by
        repeat (first | exact List.forall_mem_nil _ | refine List.forall_mem_cons.mpr ⟨⟨_, rfl, by decide, by decide⟩, ?_⟩)
      obtain ⟨d, rfl, d0, d1⟩ := h1 v hv
      exact k d _ d0 d1 P2 ((s1.same (same_new hl)).trans s2)
    · refine ⟨_, rfl, rfl, _, rfl, ?_⟩
      refine ite2 (fun _ => ?_) (fun _ => ?_)
      · refine ⟨_, _, rfl, rfl, ⟨by decide, by decide +kernel⟩, _, rfl, _, _, rfl, rfl, ⟨by decide, by decide +kernel⟩, p, _, n + 1, rfl, (by decide), up_lt (n := 9000) (show ((10 : Int) ^ (20 : Int).toNat).natAbs < 2 ^ 100 by decide) (by decide), P1, (by omega), fun d H2 d0 d1 P2 s2 => ⟨_, _, rfl, rfl, ?_⟩⟩
        have d1 : d < 10 ^ 20 := d1
        have e : (10 : Int) ^ (29 : Int).toNat = 10 ^ 29 := rfl
        refine k _ _ ?_ ?_ P2 (s1.trans s2)
        · rw [e]; omega
        · rw [e]; omega
      · refine ⟨_, rfl, _, _, rfl, rfl, ⟨by decide, by decide +kernel⟩, p, _, n + 1, rfl, (by decide), up_lt (n := 9000) (show ((10 : Int) ^ (9 : Int).toNat).natAbs < 2 ^ 100 by decide) (by decide), P1, (by omega), fun d H2 d0 d1 P2 s2 => ?_⟩
        have d1 : d < 10 ^ 9 := d1
        exact k _ _ d0 (by omega) P2 (s1.trans s2)
def spLowest : Sp := fun vs H Q _ => ∃ t b : Int, vs = [.int t, .int b] ∧ 0 < b ∧ b.natAbs < 2 ^ 9000 ∧ ∀ r H', Same H H' → H r = none → H' r = some (.tup [.int (Rat.divInt t b).num, .int ((Rat.divInt t b).den : Int)]) → Q (.ref r) H'
theorem ok_law_lowest (T : Txt K mg A) : FnOk P w K mg base CX0 1 A.f_law_lowest A.d_law_lowest ["top", "bottom"] spLowest := by
  refine T.F_law_lowest.ok sc_law_lowest (fun vs H Q E h => ?_) (fun cdv B outer s H vs Q E hr h => ?_)
  · obtain ⟨t, b, rfl, _⟩ := h
    rfl
  · obtain ⟨t, b, rfl, hb0, hbd, k⟩ := h
    refine ⟨_, (pss_cons (ps_par (i := 2) (j := 3) rfl sc_law_lowest.nd rfl rfl (by decide) rfl rfl (pa_cons (pe_callB call_abs (by rfl) T.z_abs (by decide +kernel) (pa_cons (pv 0) pa_nil)) (pa_cons (pv 1) pa_nil)) (by rfl))
      (pss_cons (ps_while PassesOwn.never (pt_cmpR op_ne (pv 3) pe_int (nomark _)) (pss_one (ps_par (i := 2) (j := 3) rfl sc_law_lowest.nd rfl rfl (by decide) rfl rfl (pa_cons (pv 3) (pa_cons (pe_op op_mod (pe_callTy call_int1 (by rfl) T.z_int (by decide +kernel) (pa_cons (pv 2) pa_nil)) (pv 3)) pa_nil)) (by rfl))))
      (pss_one (ps_ret (pe_tup (pa_cons (pe_op op_fdivG (pv 0) (pv 2)) (pa_cons (pe_op op_fdivG (pv 1) (pv 2)) pa_nil))))))), ?_⟩
    have hb : b ≠ 0 := by omega
    refine ⟨_, rfl, _, rfl, _, rfl, _, _, rfl, ?_⟩
    refine while_by (fun σ H' => ∃ c d : Nat, σ = [some (.int t), some (.int b), some (.int c), some (.int d)] ∧ Nat.gcd c d = Nat.gcd t.natAbs b.natAbs ∧ H' = H) (fun σ _ => natAt σ 3)
      ⟨t.natAbs, b.natAbs, by rw [abs_nat, show ((b.natAbs : Nat) : Int) = b by omega]; rfl, rfl, rfl⟩ ?_ ?_
    · rintro σ H' ⟨c, d, rfl, hg, rfl⟩
      refine ⟨_, rfl, rfl, _, rfl, ?_⟩
      by_cases hd : d = 0
      · subst hd
        refine iteF ?_
        rw [Nat.gcd_zero_right] at hg
        have hc0 : 0 < c := by rw [hg]; exact gcd_ne hb rfl
        have hcl : c ≤ b.natAbs := by rw [hg]; exact gcd_le hb rfl
        have hc2 : ((c : Int)).natAbs.log2 < 9000 := log2_lt (by decide) (Nat.lt_of_le_of_lt (by omega) hbd)
        have e1 := least_num (t := t) hb hg
        have e2 := least_den (t := t) hb hg
        rw [if_neg (by omega), Int.one_mul] at e1
        rw [if_neg (by omega)] at e2
        refine ⟨_, rfl, _, rfl, _, _, rfl, rfl, ⟨by omega, hc2⟩, _, rfl, _, rfl, _, _, rfl, rfl, ⟨by omega, hc2⟩, (by show 2 ≤ sizeLine; decide), fun r nr => ?_⟩
        refine k r _ (same_new nr) nr ?_
        rw [← e1, ← e2]
        exact upd_same
      · have hne : (!decide (V.int (d : Int) = V.int 0)) = true := by
          rw [dint_ne (show (d : Int) ≠ 0 by omega)]
          rfl
        rw [hne]
        refine iteT ?_
        refine ⟨_, rfl, _, rfl, Or.inl ⟨_, rfl, _, rfl, _, _, rfl, rfl, (by show (0 : Int) < d; omega), _, _, rfl, ⟨d, c % d, ?_, ?_, rfl⟩, ?_⟩⟩
        · rfl
        · rw [← hg, Nat.gcd_comm c d, Nat.gcd_rec d c, Nat.gcd_comm]
        · show ((c : Int) % (d : Int)).toNat < (d : Int).toNat
          have := Int.emod_lt_of_pos (c : Int) (show (0 : Int) < d by omega)
          have := Int.emod_nonneg (c : Int) (show (d : Int) ≠ 0 by omega)
          omega
    · intro σ H Q Q' m h
      obtain ⟨v, e, q⟩ := h
      obtain ⟨z, b, e2, q2⟩ := q
      exact ⟨v, e, z, b, e2, m _ _ q2⟩
def spPair93 : Sp := fun vs H Q _ => ∃ (p : Addr) (n : Nat), vs = [.ref p] ∧ Pot H p n ∧ n ≤ 80000 ∧ ∀ q r H', D30 q → PT H' r q → Pot H' p (n + 6) → SameBut p H H' → Q (.ref r) H'
theorem ok_law_pair (T : Txt K mg A) : FnOk P w K mg base CX0 4 A.f_law_pair A.d_law_pair ["pot"] spPair93 := by
  refine T.F_law_pair.ok sc_law_pair (fun vs H Q E h => ?_) (fun cdv B outer s H vs Q E hr h => ?_)
  · obtain ⟨p, n, rfl, _⟩ := h
    rfl
  · obtain ⟨p, n, rfl, hP, hn, k⟩ := h
    have hr1 : Room 1 _ := hr.mono (by decide)
    have hr2 : Room 2 _ := hr.mono (by decide)
    have hr3 : Room 3 _ := hr.mono (by decide)
    refine ⟨_, (pss_cons (ps_par (i := 1) (j := 2) rfl sc_law_pair.nd rfl rfl (by decide) rfl rfl (pa_cons (pe_call (ok_law_digits T) hr3 rfl T.g_law_digits T.F_law_digits.kp T.b_law_digits .nil pass0 (pa_cons (pv 0) pa_nil)) (pa_cons (pe_call (ok_law_of T) hr2 rfl T.g_law_of T.F_law_of.kp T.b_law_of .nil pass0 (pa_cons (pv 0) (pa_cons (pe_lst (pa_cons pe_int (pa_cons pe_int (pa_cons pe_int (pa_cons pe_int (pa_cons pe_int (pa_cons pe_int (pa_cons (pe_op op_add (pe_op op_powW pe_int pe_int) pe_int) (pa_cons (pe_op op_add pe_int (pe_call (ok_law_digits T) hr3 rfl T.g_law_digits T.F_law_digits.kp T.b_law_digits .nil pass0 (pa_cons (pv 0) pa_nil))) pa_nil))))))))) pa_nil))) pa_nil)) (by rfl))
      (pss_one (ps_ret (pe_call (ok_law_lowest T) hr1 rfl T.g_law_lowest T.F_law_lowest.kp T.b_law_lowest .nil pass0 (pa_cons (pe_op op_mulW (pv 1) (pe_call (ok_law_of T) hr2 rfl T.g_law_of T.F_law_of.kp T.b_law_of .nil pass0 (pa_cons (pv 0) (pa_cons (pe_lst (pa_cons pe_int (pa_cons (pe_un un_neg pe_int) pa_nil))) pa_nil)))) (pa_cons (pv 2) pa_nil)))))), ?_⟩
    refine ⟨_, rfl, p, n, rfl, hP, (by omega), fun t H1 t0 t1 P1 s1 => ?_⟩
    refine ⟨_, rfl, _, _, rfl, rfl, ⟨by decide, by decide +kernel⟩, _, _, rfl, rfl, _, rfl, p, n + 2, rfl, P1, (by omega), fun d H2 d0 d1 P2 s2 => ⟨_, _, rfl, rfl, by show 8 ≤ sizeLine; decide, fun l hl => ?_⟩⟩
    obtain ⟨xs1, e1⟩ := P2.lst
    refine ⟨p, l, _, n + 4, rfl, upd_same, (ne_of_none e1 hl).symm, by simp, by show 8 ≤ 1000; decide, P2.same (same_new hl), (by omega), fun v H3 hv P3 s3 => ⟨_, _, rfl, ?_⟩⟩
    have h1 : ∀ v ∈ ([V.int 1, V.int 1, V.int 2, V.int 3, V.int 4, V.int 7, V.int (10 ^ (29 : Int).toNat + 9), V.int (1 + d)] : List V), ∃ b : Int, v = .int b ∧ 0 < b ∧ b < 10 ^ 30 := by
      repeat (first | exact List.forall_mem_nil _ | refine List.forall_mem_cons.mpr ⟨⟨_, rfl, by first | decide | omega, by first | decide | omega⟩, ?_⟩)
    obtain ⟨b, rfl, b0, b1⟩ := h1 v hv
    refine stT (σ' := [some (.ref p), some (.int t), some (.int b)]) rfl ?_
    refine ⟨_, rfl, _, rfl, _, rfl, by show 2 ≤ sizeLine; decide, fun l2 hl2 => ?_⟩
    obtain ⟨xs3, e3⟩ := P3.lst
    refine ⟨p, l2, _, n + 4 + 1, rfl, upd_same, (ne_of_none e3 hl2).symm, by simp, by show 2 ≤ 1000; decide, P3.same (same_new hl2), (by omega), fun v2 H4 hv2 P4 s4 => ?_⟩
    have h2 : ∀ v ∈ ([V.int 1, V.int (-1)] : List V), ∃ s : Int, v = .int s ∧ s.natAbs = 1 := by
      repeat (first | exact List.forall_mem_nil _ | refine List.forall_mem_cons.mpr ⟨⟨_, rfl, by decide⟩, ?_⟩)
    obtain ⟨s, rfl, hs⟩ := h2 v2 hv2
    have bt : t.natAbs < 2 ^ 100 := by omega
    have bb : b.natAbs < 2 ^ 100 := by omega
    refine ⟨_, _, rfl, rfl, bdw bt (show s.natAbs < 2 ^ 2 by rw [hs]; decide), _, rfl, t * s, b, rfl, b0, up_lt bb (by decide), fun r H5 s5 nr er => ?_⟩
    have lo := low_le (t := t * s) (show b ≠ 0 by omega)
    have ht : (t * s).natAbs = t.natAbs := by rw [Int.natAbs_mul, hs, Nat.mul_one]
    exact k (Rat.divInt (t * s) b) r H5 ⟨by omega, by omega⟩ er (P4.same s5) (((s1.trans (s2.same (same_new hl))).trans (s3.same (same_new hl2))).trans (s4.same s5))
end
/-! ### k93: the law's own texts -/
theorem abs_num (t : Rat) : (absR t).num = (if t.num < 0 then -t.num else t.num) := by
  unfold absR
  by_cases h : t < 0
  · rw [if_pos h, if_pos ((num_neg_iff t).mpr h), Rat.neg_num]
  · rw [if_neg h, if_neg fun z => h ((num_neg_iff t).mp z)]
theorem numT_add {q : Rat} (h : q.den ≠ 1) : S (intL q.num) ++ "/" ++ S (TL.numL q.den) = S (numT q) := by
  rw [← numT_two h, show Str.empty ++ S (intL q.num) = S (intL q.num) from S_app [] _]
section
variable {P : Program} {w : World} {K : PySem.W.Frag} {mg : Str → Option Value} {base : Heap} {A : Ad}
def spNT : Sp := fun vs H Q _ => ∃ (r : Addr) (q : Rat), vs = [.ref r] ∧ PT H r q ∧ Bd 1900 q ∧ Q (.str (S (numT q))) H
theorem ok_law_number_text (T : Txt K mg A) : FnOk P w K mg base CX0 1 A.f_law_number_text A.d_law_number_text ["pair"] spNT := by
  refine T.F_law_number_text.ok sc_law_number_text (fun vs H Q E h => ?_) (fun cdv B outer s H vs Q E hr h => ?_)
  · obtain ⟨r, q, rfl, _⟩ := h
    rfl
  · obtain ⟨r, q, rfl, er, b, k⟩ := h
    refine ⟨_, (pss_one (ps_ret (pe_ifExp (pt_cmpR op_eq (pe_ix ix_tup (pv 0) pe_int (fun _ _ => rfl)) pe_int (nomark _)) (pe_callTy call_str_int (by rfl) T.z_str (by decide +kernel) (pa_cons (pe_ix ix_tup (pv 0) pe_int (fun _ _ => rfl)) pa_nil)) (pe_op op_add_str (pe_op op_add_str (pe_callTy call_str_int (by rfl) T.z_str (by decide +kernel) (pa_cons (pe_ix ix_tup (pv 0) pe_int (fun _ _ => rfl)) pa_nil)) pe_str) (pe_callTy call_str_int (by rfl) T.z_str (by decide +kernel) (pa_cons (pe_ix ix_tup (pv 0) pe_int (fun _ _ => rfl)) pa_nil)))))), ?_⟩
    obtain ⟨l0, l1, l2⟩ := num_len b
    have lg1 : q.num.natAbs.log2 < 1920 := log2_lt (by decide) (Nat.lt_of_lt_of_le b.1 (Nat.pow_le_pow_right (by decide) (by decide)))
    have lg2 : ((q.den : Int)).natAbs.log2 < 1920 := log2_lt (by decide) (Nat.lt_of_lt_of_le b.den' (Nat.pow_le_pow_right (by decide) (by decide)))
    have er : H r = some (.tup [.int q.num, .int (q.den : Int)]) := er
    refine ⟨_, rfl, r, _, _, _, rfl, rfl, SqT.of er, rfl, rfl, _, rfl, ?_⟩
    by_cases hd : q.den = 1
    · refine iteT' (dint_eq (by rw [hd]; rfl)) ?_
      refine ⟨_, rfl, r, _, _, _, rfl, rfl, SqT.of er, rfl, _, rfl, lg1, ?_⟩
      rw [numT_one hd, ← int_S] at k
      exact k
    · refine iteF' (dint_ne (by omega)) ?_
      refine ⟨_, rfl, r, _, _, _, rfl, rfl, SqT.of er, rfl, _, rfl, lg1, _, _, rfl, rfl, ?_, _, rfl, r, _, _, _, rfl, rfl, SqT.of er, rfl, _, rfl, lg2, _, _, rfl, rfl, ?_, ?_⟩
      · rw [int_S, len_S, sizeLine_eq]
        show (intL q.num).length + 1 ≤ _
        omega
      · rw [int_S, den_nat, show ("/" : Str) = S [47] by decide +kernel, S_app, len_S, len_S, List.length_append, sizeLine_eq]
        simp
        omega
      · show Q (.str (Str.ofString (toString q.num) ++ "/" ++ Str.ofString (toString (q.den : Int)))) H
        rw [int_S, den_nat, numT_add hd]
        exact k
def spLT : Sp := fun vs H Q _ => ∃ (u v : Addr) (b t : Rat), vs = [.ref u, .ref v] ∧ PT H u b ∧ PT H v t ∧ Bd 1900 b ∧ Bd 1900 t ∧ ∀ H', Same H H' → Q (.str (S (showLine b t))) H'
theorem ok_law_line_text (T : Txt K mg A) : FnOk P w K mg base CX0 2 A.f_law_line_text A.d_law_line_text ["base", "slope"] spLT := by
  refine T.F_law_line_text.ok sc_law_line_text (fun vs H Q E h => ?_) (fun cdv B outer s H vs Q E hr h => ?_)
  · obtain ⟨u, v, b, t, rfl, _⟩ := h
    rfl
  · obtain ⟨u, v, b, t, rfl, hu, hv, bb, bt, k⟩ := h
    have hr1 : Room 1 _ := hr.mono (by decide)
    refine ⟨_, (pss_cons (ps_if (pt_cmpR op_eq (pe_ix ix_tup (pv 1) pe_int (fun _ _ => rfl)) pe_int (nomark _)) (pss_one (ps_ret (pe_call (ok_law_number_text T) hr1 rfl T.g_law_number_text T.F_law_number_text.kp T.b_law_number_text .nil pass0 (pa_cons (pv 0) pa_nil)))) pss_nil)
      (pss_cons (ps_if (pt_cmpR op_eq (pe_ix ix_tup (pv 0) pe_int (fun _ _ => rfl)) pe_int (nomark _)) (pss_one (ps_ret (pe_op op_add_str (pe_call (ok_law_number_text T) hr1 rfl T.g_law_number_text T.F_law_number_text.kp T.b_law_number_text .nil pass0 (pa_cons (pv 1) pa_nil)) pe_str))) pss_nil)
      (Evl.pss_cut (ps_set (i := 2) sc_law_line_text.nd rfl (Or.inl rfl) (pe_ifExp (pt_cmpR op_gt (pe_ix ix_tup (pv 1) pe_int (fun _ _ => rfl)) pe_int (nomark _)) pe_str pe_str))
      (pss_one (ps_ret (pe_op op_add_str (pe_op op_add_str (pe_op op_add_str (pe_call (ok_law_number_text T) hr1 rfl T.g_law_number_text T.F_law_number_text.kp T.b_law_number_text .nil pass0 (pa_cons (pv 0) pa_nil)) (pv 2)) (pe_call (ok_law_number_text T) hr1 rfl T.g_law_number_text T.F_law_number_text.kp T.b_law_number_text .nil pass0 (pa_cons (pe_tup (pa_cons (pe_callB call_abs (by rfl) T.z_abs (by decide +kernel) (pa_cons (pe_ix ix_tup (pv 1) pe_int (fun _ _ => rfl)) pa_nil)) (pa_cons (pe_ix ix_tup (pv 1) pe_int (fun _ _ => rfl)) pa_nil))) pa_nil))) pe_str)))))), ?_⟩
    have eu : H u = some (.tup [.int b.num, .int (b.den : Int)]) := hu
    have ev : H v = some (.tup [.int t.num, .int (t.den : Int)]) := hv
    have l1 := numT_le bb
    have l2 := numT_le bt
    have l3 := numT_le (absR_bd bt)
    refine ⟨_, rfl, v, _, _, _, rfl, rfl, SqT.of ev, rfl, rfl, _, rfl, ?_⟩
    by_cases ht : t = 0
    · refine iteT' (dint_eq (by rw [ht]; rfl)) ?_
      refine ⟨_, rfl, u, b, rfl, hu, bb, ?_⟩
      have e : showLine b t = numT b := by unfold showLine; rw [if_pos ht]
      rw [← e]
      exact k _ (Same.refl _)
    refine iteF' (dint_ne (num_ne ht)) ?_
    refine ⟨_, rfl, u, _, _, _, rfl, rfl, SqT.of eu, rfl, rfl, _, rfl, ?_⟩
    by_cases hb : b = 0
    · refine iteT' (dint_eq (by rw [hb]; rfl)) ?_
      refine ⟨_, rfl, v, t, rfl, hv, bt, _, _, rfl, rfl, ?_, ?_⟩
      · rw [len_S, sizeLine_eq]
        show (numT t).length + 1 ≤ _
        omega
      · have e : showLine b t = numT t ++ [115] := by unfold showLine; rw [if_neg ht, if_pos hb]
        have k := k _ (Same.refl _)
        rw [e, ← S_app] at k
        exact k
    refine iteF' (dint_ne (num_ne hb)) ?_
    refine ⟨fun σ' H' => σ' = [some (.ref u), some (.ref v), some (.str (S [32, if t < 0 then 45 else 43, 32]))] ∧ H = H', ?_, ?_⟩
    · refine ⟨_, rfl, v, _, _, _, rfl, rfl, SqT.of ev, rfl, _, _, rfl, rfl, _, rfl, ?_⟩
      have hz := num_ne ht
      by_cases hn : t < 0
      · have := (num_neg_iff t).mpr hn
        refine iteF' (decide_eq_false (by omega)) ?_
        refine ⟨?_, rfl⟩
        rw [if_pos hn]
        rfl
      · have : ¬ t.num < 0 := fun z => hn ((num_neg_iff t).mp z)
        refine iteT' (decide_eq_true (by omega)) ?_
        refine ⟨?_, rfl⟩
        rw [if_neg hn]
        rfl
    rintro σ' H' ⟨rfl, rfl⟩
    obtain ⟨g, hg⟩ : ∃ g : Nat, g = (if t < 0 then 45 else 43) := ⟨_, rfl⟩
    have e : showLine b t = numT b ++ ([32, g, 32] ++ (numT (absR t) ++ [115])) := by unfold showLine; rw [if_neg ht, if_neg hb, hg]
    rw [← hg]
    refine ⟨_, rfl, u, b, rfl, hu, bb, _, rfl, _, _, rfl, rfl, ?_, _, rfl, v, _, _, _, rfl, rfl, SqT.of ev, rfl, _, rfl, _, rfl, v, _, _, _, rfl, rfl, SqT.of ev, rfl, by show 2 ≤ sizeLine; decide, fun w nw => ⟨w, absR t, rfl, ?_, absR_bd bt, _, _, rfl, rfl, ?_, _, _, rfl, rfl, ?_, ?_⟩⟩
    · rw [len_S, sizeLine_eq]
      show (numT b).length + 3 ≤ _
      omega
    · show (upd H w _) w = _
      rw [upd_same, abs_num, (absR_num t).2]
    · rw [S_app, len_S, len_S, List.length_append, sizeLine_eq]
      simp
      omega
    · rw [S_app, S_app, len_S, List.length_append, List.length_append, sizeLine_eq]
      show _ + 1 ≤ _
      simp
      omega
    · have k := k _ (same_new (o := .tup [.int (if t.num < 0 then -t.num else t.num), .int (t.den : Int)]) nw)
      have ee : S (numT b) ++ S [32, g, 32] ++ S (numT (absR t)) ++ "s" = S (showLine b t) := by
        rw [show ("s" : Str) = S [115] by decide +kernel, S_app, S_app, S_app, e]
        refine congrArg S ?_
        simp only [List.append_assoc]
      rw [← ee] at k
      exact k
end
/-! ### read_number, read_line, read_stretch of any value -/
def NotStr (K : PySem.W.Frag) (H : Hp) (y : V) : Prop := ∃ ty, TyX K H y ty ∧ PySem.W.kitOne K ty (.type "str") = some false
theorem raised0 {R : Addr → Hp → Prop} {H : Hp} {e dd : Addr} {y : V} {o1 o2 o3 : HO} (ne : H e = none) (nd : (upd H e o1) dd = none) (hd : dd ≠ e)
    (k : ∀ dd H', Same H H' → BadAt dd H' y → R dd H') : R dd (upd (del (upd (upd (upd H e o1) dd o2) e o3) e) dd (.xd [("value", y)])) :=
  k dd _ (same_exc (C := e) (Same.refl _) ne nd hd) upd_same
section
variable {P : Program} {w : World} {K : PySem.W.Frag} {mg : Str → Option Value} {base : Heap} {A : Ad}
def spByXN (K : PySem.W.Frag) (A : Ad) : Sp := fun vs H Q E => ∃ y : V, vs = [.ref A.f_number_in, y] ∧
  ((∃ l : List Nat, y = .str (S l) ∧ l.length ≤ 10000 ∧ (∀ (q : Rat), readNum l = some q → ∀ a H', Same H H' → Num A.c_Number H' a q ∧ WM.Bd 110 q → Q (.ref a) H') ∧ (readNum l = none → ∀ dd H', Same H H' → BadAt dd H' y → E (.ref A.c_BadText) (some dd) H')) ∨
    (NotStr K H y ∧ ∀ dd H', Same H H' → BadAt dd H' y → E (.ref A.c_BadText) (some dd) H'))
theorem ok_read_byXN (TW : TxtW w K mg A) : FnOk PP w K mg base (L2.CX PP w) 9 A.f_read_by A.d_read_by ["reader", "text"] (spByXN K A) := by
  have T := TW.t
  refine T.F_read_by.okX sc_read_by (fun vs H Q E h => ?_) (fun cdv B outer s H vs Q E hr h => ?_)
  · obtain ⟨y, rfl, _⟩ := h
    rfl
  · obtain ⟨y, rfl, h⟩ := h
    have hr2 : Room 2 _ := hr.mono (by decide)
    have hr8 : Room 8 _ := hr.mono (by decide)
    refine ⟨_, (pss_cons (ps_set (i := 2) sc_read_by.nd rfl (Or.inl rfl) (pe_ifExp (pt_val (pe_callB call_isi (by rfl) T.z_isinstance (by decide +kernel) (pa_cons (pv 1) (pa_cons (pe_bltn (v := .ty "str") (by rfl) T.z_str (by decide +kernel) rfl) pa_nil))))
        (C8.pe_cv (i := 0) (k1 := 5) (k2 := 5) ⟨⟨_, _, ok_number_in T, T.F_number_in.kp, T.b_number_in⟩⟩ ⟨⟨_, _, ok_number_in T, T.F_number_in.kp, T.b_number_in⟩⟩ hr8 (by decide) (by decide) rfl (Or.inl rfl) (pa_cons (pv 1) pa_nil)) pe_non))
      (pss_cons (ps_if (pt_cmp (pc_isN (pv 2))) (pss_one (ps_raise rfl (takes_of rfl rfl rfl rfl) (pmk_oex T.X_BadText T.in_BadText T.ti_BadText (T.I_BadText _ _) hr2 T.b_BadText_init .nil pass0 rfl T.g_BadText (pa_cons (pv 1) pa_nil)))) pss_nil)
      (pss_one (ps_ret (pv 2))))), ?_⟩
    rcases h with ⟨l, rfl, hl, k1, k2⟩ | ⟨⟨ty, t1, t2⟩, k2⟩
    · refine ⟨_, rfl, _, _, _, _, true, rfl, .ty _, .base (.str _), T.kit_strstr, true, rfl, ?_⟩
      refine iteT' rfl ?_
      refine .inl ⟨rfl, _, rfl, l, rfl, hl, fun r H1 s1 hr => ?_⟩
      cases eq : readNum l with
      | some x =>
        rw [eq] at hr
        obtain ⟨a, rfl, hn⟩ := hr
        refine ⟨_, rfl, _, rfl, ?_⟩
        refine iteF' (by simp) ?_
        exact ⟨_, rfl, k1 x eq a _ s1 hn⟩
      | none =>
        rw [eq] at hr
        cases (show r = V.non from hr)
        refine ⟨_, rfl, _, rfl, ?_⟩
        refine iteT' (by simp) ?_
        refine ⟨_, rfl, ?_⟩
        refine ⟨by show 1 ≤ 1000; decide, fun e ne => ⟨e, _, rfl, upd_same, fun dd nd hd => ⟨rfl, dd, [("value", _)], upd_same, by rw [upd_ne hd, upd_same], by rw [← nd, upd_ne hd], ?_⟩⟩⟩
        exact raised0 (R := fun dd H' => E (.ref A.c_BadText) (some dd) H') ne nd hd fun dd H' s hb => k2 eq dd H' (s1.trans s) hb
    · refine ⟨_, rfl, _, _, _, _, false, rfl, .ty _, t1, t2, false, rfl, ?_⟩
      refine iteF' rfl ?_
      refine ⟨_, rfl, _, rfl, ?_⟩
      refine iteT' (by simp) ?_
      refine ⟨_, rfl, ?_⟩
      refine ⟨by show 1 ≤ 1000; decide, fun e ne => ⟨e, _, rfl, upd_same, fun dd nd hd => ⟨rfl, dd, [("value", _)], upd_same, by rw [upd_ne hd, upd_same], by rw [← nd, upd_ne hd], ?_⟩⟩⟩
      exact raised0 (R := fun dd H' => E (.ref A.c_BadText) (some dd) H') ne nd hd fun dd H' s hb => k2 dd H' s hb
def spReadXN (K : PySem.W.Frag) (A : Ad) : Sp := fun vs H Q E => ∃ y : V, vs = [y] ∧
  ((∃ l : List Nat, y = .str (S l) ∧ l.length ≤ 10000 ∧ (∀ (q : Rat), readNum l = some q → ∀ a H', Same H H' → Num A.c_Number H' a q ∧ WM.Bd 110 q → Q (.ref a) H') ∧ (readNum l = none → ∀ dd H', Same H H' → BadAt dd H' y → E (.ref A.c_BadText) (some dd) H')) ∨
    (NotStr K H y ∧ ∀ dd H', Same H H' → BadAt dd H' y → E (.ref A.c_BadText) (some dd) H'))
theorem ok_read_numberX (TW : TxtW w K mg A) : FnOk PP w K mg base (L2.CX PP w) 10 A.f_read_number A.d_read_number ["text"] (spReadXN K A) := by
  have T := TW.t
  refine T.F_read_number.okX sc_read_number (fun vs H Q E h => ?_) (fun cdv B outer s H vs Q E hr h => ?_)
  · obtain ⟨y, rfl, _⟩ := h
    rfl
  · obtain ⟨y, rfl, h⟩ := h
    refine ⟨_, pss_one (ps_ret (pe_callS (E := fun _ => E) (ok_read_byXN TW) hr rfl T.g_read_by T.F_read_by.kp T.b_read_by (fun σ => passAt (W := fun cls d _ H => E cls d H) (takes_of rfl rfl rfl rfl) σ) (pa_cons (pe_glob (v := .ref A.f_number_in) (by rfl) T.g_number_in rfl) (pa_cons (pv 0) pa_nil)))), ?_⟩
    exact ⟨_, rfl, y, rfl, h⟩
def spByXL (K : PySem.W.Frag) (A : Ad) : Sp := fun vs H Q E => ∃ y : V, vs = [.ref A.f_line_in, y] ∧
  ((∃ l : List Nat, y = .str (S l) ∧ l.length ≤ 10000 ∧ (∀ (b t : Rat), readLine l = some (b, t) → ∀ a H', Same H H' → Lin A H' a b t ∧ WM.Bd 120 b ∧ WM.Bd 120 t → Q (.ref a) H') ∧ (readLine l = none → ∀ dd H', Same H H' → BadAt dd H' y → E (.ref A.c_BadText) (some dd) H')) ∨
    (NotStr K H y ∧ ∀ dd H', Same H H' → BadAt dd H' y → E (.ref A.c_BadText) (some dd) H'))
theorem ok_read_byXL (TW : TxtW w K mg A) : FnOk PP w K mg base (L2.CX PP w) 9 A.f_read_by A.d_read_by ["reader", "text"] (spByXL K A) := by
  have T := TW.t
  refine T.F_read_by.okX sc_read_by (fun vs H Q E h => ?_) (fun cdv B outer s H vs Q E hr h => ?_)
  · obtain ⟨y, rfl, _⟩ := h
    rfl
  · obtain ⟨y, rfl, h⟩ := h
    have hr2 : Room 2 _ := hr.mono (by decide)
    have hr8 : Room 8 _ := hr.mono (by decide)
    refine ⟨_, (pss_cons (ps_set (i := 2) sc_read_by.nd rfl (Or.inl rfl) (pe_ifExp (pt_val (pe_callB call_isi (by rfl) T.z_isinstance (by decide +kernel) (pa_cons (pv 1) (pa_cons (pe_bltn (v := .ty "str") (by rfl) T.z_str (by decide +kernel) rfl) pa_nil))))
        (C8.pe_cv (i := 0) (k1 := 7) (k2 := 7) ⟨⟨_, _, ok_line_in T, T.F_line_in.kp, T.b_line_in⟩⟩ ⟨⟨_, _, ok_line_in T, T.F_line_in.kp, T.b_line_in⟩⟩ hr8 (by decide) (by decide) rfl (Or.inl rfl) (pa_cons (pv 1) pa_nil)) pe_non))
      (pss_cons (ps_if (pt_cmp (pc_isN (pv 2))) (pss_one (ps_raise rfl (takes_of rfl rfl rfl rfl) (pmk_oex T.X_BadText T.in_BadText T.ti_BadText (T.I_BadText _ _) hr2 T.b_BadText_init .nil pass0 rfl T.g_BadText (pa_cons (pv 1) pa_nil)))) pss_nil)
      (pss_one (ps_ret (pv 2))))), ?_⟩
    rcases h with ⟨l, rfl, hl, k1, k2⟩ | ⟨⟨ty, t1, t2⟩, k2⟩
    · refine ⟨_, rfl, _, _, _, _, true, rfl, .ty _, .base (.str _), T.kit_strstr, true, rfl, ?_⟩
      refine iteT' rfl ?_
      refine .inl ⟨rfl, _, rfl, l, rfl, hl, fun r H1 s1 hr => ?_⟩
      cases eq : readLine l with
      | some x =>
        rw [eq] at hr
        obtain ⟨b, t⟩ := x
        obtain ⟨a, rfl, hn⟩ := hr
        refine ⟨_, rfl, _, rfl, ?_⟩
        refine iteF' (by simp) ?_
        exact ⟨_, rfl, k1 b t eq a _ s1 hn⟩
      | none =>
        rw [eq] at hr
        cases (show r = V.non from hr)
        refine ⟨_, rfl, _, rfl, ?_⟩
        refine iteT' (by simp) ?_
        refine ⟨_, rfl, ?_⟩
        refine ⟨by show 1 ≤ 1000; decide, fun e ne => ⟨e, _, rfl, upd_same, fun dd nd hd => ⟨rfl, dd, [("value", _)], upd_same, by rw [upd_ne hd, upd_same], by rw [← nd, upd_ne hd], ?_⟩⟩⟩
        exact raised0 (R := fun dd H' => E (.ref A.c_BadText) (some dd) H') ne nd hd fun dd H' s hb => k2 eq dd H' (s1.trans s) hb
    · refine ⟨_, rfl, _, _, _, _, false, rfl, .ty _, t1, t2, false, rfl, ?_⟩
      refine iteF' rfl ?_
      refine ⟨_, rfl, _, rfl, ?_⟩
      refine iteT' (by simp) ?_
      refine ⟨_, rfl, ?_⟩
      refine ⟨by show 1 ≤ 1000; decide, fun e ne => ⟨e, _, rfl, upd_same, fun dd nd hd => ⟨rfl, dd, [("value", _)], upd_same, by rw [upd_ne hd, upd_same], by rw [← nd, upd_ne hd], ?_⟩⟩⟩
      exact raised0 (R := fun dd H' => E (.ref A.c_BadText) (some dd) H') ne nd hd fun dd H' s hb => k2 dd H' s hb
def spReadXL (K : PySem.W.Frag) (A : Ad) : Sp := fun vs H Q E => ∃ y : V, vs = [y] ∧
  ((∃ l : List Nat, y = .str (S l) ∧ l.length ≤ 10000 ∧ (∀ (b t : Rat), readLine l = some (b, t) → ∀ a H', Same H H' → Lin A H' a b t ∧ WM.Bd 120 b ∧ WM.Bd 120 t → Q (.ref a) H') ∧ (readLine l = none → ∀ dd H', Same H H' → BadAt dd H' y → E (.ref A.c_BadText) (some dd) H')) ∨
    (NotStr K H y ∧ ∀ dd H', Same H H' → BadAt dd H' y → E (.ref A.c_BadText) (some dd) H'))
theorem ok_read_lineX (TW : TxtW w K mg A) : FnOk PP w K mg base (L2.CX PP w) 10 A.f_read_line A.d_read_line ["text"] (spReadXL K A) := by
  have T := TW.t
  refine T.F_read_line.okX sc_read_line (fun vs H Q E h => ?_) (fun cdv B outer s H vs Q E hr h => ?_)
  · obtain ⟨y, rfl, _⟩ := h
    rfl
  · obtain ⟨y, rfl, h⟩ := h
    refine ⟨_, pss_one (ps_ret (pe_callS (E := fun _ => E) (ok_read_byXL TW) hr rfl T.g_read_by T.F_read_by.kp T.b_read_by (fun σ => passAt (W := fun cls d _ H => E cls d H) (takes_of rfl rfl rfl rfl) σ) (pa_cons (pe_glob (v := .ref A.f_line_in) (by rfl) T.g_line_in rfl) (pa_cons (pv 0) pa_nil)))), ?_⟩
    exact ⟨_, rfl, y, rfl, h⟩
def spByXS (K : PySem.W.Frag) (A : Ad) : Sp := fun vs H Q E => ∃ y : V, vs = [.ref A.f_stretch_in, y] ∧
  ((∃ l : List Nat, y = .str (S l) ∧ l.length ≤ 10000 ∧ (∀ (p q : Rat) (b1 b2 : Bool), readStr l = some (p, q, b1, b2) → ∀ a H', Same H H' → Strh A H' a p q b1 b2 ∧ WM.Bd 120 p ∧ WM.Bd 120 q → Q (.ref a) H') ∧ (readStr l = none → ∀ dd H', Same H H' → BadAt dd H' y → E (.ref A.c_BadText) (some dd) H')) ∨
    (NotStr K H y ∧ ∀ dd H', Same H H' → BadAt dd H' y → E (.ref A.c_BadText) (some dd) H'))
theorem ok_read_byXS (TW : TxtW w K mg A) : FnOk PP w K mg base (L2.CX PP w) 9 A.f_read_by A.d_read_by ["reader", "text"] (spByXS K A) := by
  have T := TW.t
  refine T.F_read_by.okX sc_read_by (fun vs H Q E h => ?_) (fun cdv B outer s H vs Q E hr h => ?_)
  · obtain ⟨y, rfl, _⟩ := h
    rfl
  · obtain ⟨y, rfl, h⟩ := h
    have hr2 : Room 2 _ := hr.mono (by decide)
    have hr8 : Room 8 _ := hr.mono (by decide)
    refine ⟨_, (pss_cons (ps_set (i := 2) sc_read_by.nd rfl (Or.inl rfl) (pe_ifExp (pt_val (pe_callB call_isi (by rfl) T.z_isinstance (by decide +kernel) (pa_cons (pv 1) (pa_cons (pe_bltn (v := .ty "str") (by rfl) T.z_str (by decide +kernel) rfl) pa_nil))))
        (C8.pe_cv (i := 0) (k1 := 8) (k2 := 8) ⟨⟨_, _, ok_stretch_in TW, T.F_stretch_in.kp, T.b_stretch_in⟩⟩ ⟨⟨_, _, ok_stretch_in TW, T.F_stretch_in.kp, T.b_stretch_in⟩⟩ hr8 (by decide) (by decide) rfl (Or.inl rfl) (pa_cons (pv 1) pa_nil)) pe_non))
      (pss_cons (ps_if (pt_cmp (pc_isN (pv 2))) (pss_one (ps_raise rfl (takes_of rfl rfl rfl rfl) (pmk_oex T.X_BadText T.in_BadText T.ti_BadText (T.I_BadText _ _) hr2 T.b_BadText_init .nil pass0 rfl T.g_BadText (pa_cons (pv 1) pa_nil)))) pss_nil)
      (pss_one (ps_ret (pv 2))))), ?_⟩
    rcases h with ⟨l, rfl, hl, k1, k2⟩ | ⟨⟨ty, t1, t2⟩, k2⟩
    · refine ⟨_, rfl, _, _, _, _, true, rfl, .ty _, .base (.str _), T.kit_strstr, true, rfl, ?_⟩
      refine iteT' rfl ?_
      refine .inl ⟨rfl, _, rfl, l, rfl, hl, fun r H1 s1 hr => ?_⟩
      cases eq : readStr l with
      | some x =>
        rw [eq] at hr
        obtain ⟨p, q, b1, b2⟩ := x
        obtain ⟨a, rfl, hn⟩ := hr
        refine ⟨_, rfl, _, rfl, ?_⟩
        refine iteF' (by simp) ?_
        exact ⟨_, rfl, k1 p q b1 b2 eq a _ s1 hn⟩
      | none =>
        rw [eq] at hr
        cases (show r = V.non from hr)
        refine ⟨_, rfl, _, rfl, ?_⟩
        refine iteT' (by simp) ?_
        refine ⟨_, rfl, ?_⟩
        refine ⟨by show 1 ≤ 1000; decide, fun e ne => ⟨e, _, rfl, upd_same, fun dd nd hd => ⟨rfl, dd, [("value", _)], upd_same, by rw [upd_ne hd, upd_same], by rw [← nd, upd_ne hd], ?_⟩⟩⟩
        exact raised0 (R := fun dd H' => E (.ref A.c_BadText) (some dd) H') ne nd hd fun dd H' s hb => k2 eq dd H' (s1.trans s) hb
    · refine ⟨_, rfl, _, _, _, _, false, rfl, .ty _, t1, t2, false, rfl, ?_⟩
      refine iteF' rfl ?_
      refine ⟨_, rfl, _, rfl, ?_⟩
      refine iteT' (by simp) ?_
      refine ⟨_, rfl, ?_⟩
      refine ⟨by show 1 ≤ 1000; decide, fun e ne => ⟨e, _, rfl, upd_same, fun dd nd hd => ⟨rfl, dd, [("value", _)], upd_same, by rw [upd_ne hd, upd_same], by rw [← nd, upd_ne hd], ?_⟩⟩⟩
      exact raised0 (R := fun dd H' => E (.ref A.c_BadText) (some dd) H') ne nd hd fun dd H' s hb => k2 dd H' s hb
def spReadXS (K : PySem.W.Frag) (A : Ad) : Sp := fun vs H Q E => ∃ y : V, vs = [y] ∧
  ((∃ l : List Nat, y = .str (S l) ∧ l.length ≤ 10000 ∧ (∀ (p q : Rat) (b1 b2 : Bool), readStr l = some (p, q, b1, b2) → ∀ a H', Same H H' → Strh A H' a p q b1 b2 ∧ WM.Bd 120 p ∧ WM.Bd 120 q → Q (.ref a) H') ∧ (readStr l = none → ∀ dd H', Same H H' → BadAt dd H' y → E (.ref A.c_BadText) (some dd) H')) ∨
    (NotStr K H y ∧ ∀ dd H', Same H H' → BadAt dd H' y → E (.ref A.c_BadText) (some dd) H'))
theorem ok_read_stretchX (TW : TxtW w K mg A) : FnOk PP w K mg base (L2.CX PP w) 10 A.f_read_stretch A.d_read_stretch ["text"] (spReadXS K A) := by
  have T := TW.t
  refine T.F_read_stretch.okX sc_read_stretch (fun vs H Q E h => ?_) (fun cdv B outer s H vs Q E hr h => ?_)
  · obtain ⟨y, rfl, _⟩ := h
    rfl
  · obtain ⟨y, rfl, h⟩ := h
    refine ⟨_, pss_one (ps_ret (pe_callS (E := fun _ => E) (ok_read_byXS TW) hr rfl T.g_read_by T.F_read_by.kp T.b_read_by (fun σ => passAt (W := fun cls d _ H => E cls d H) (takes_of rfl rfl rfl rfl) σ) (pa_cons (pe_glob (v := .ref A.f_stretch_in) (by rfl) T.g_stretch_in rfl) (pa_cons (pv 0) pa_nil)))), ?_⟩
    exact ⟨_, rfl, y, rfl, h⟩
end
/-! ### _law_is_digits, _law_number_of -/
def isD (c : Nat) : Bool := decide (c ∈ (("0123456789" : Str).cps.toList))
theorem isD_eq (c : Nat) : isD c = (decide (48 ≤ c) && decide (c ≤ 57)) := by
  have e : ("0123456789" : Str).cps.toList = [48, 49, 50, 51, 52, 53, 54, 55, 56, 57] := by decide +kernel
  unfold isD
  rw [e, Bool.eq_iff_iff]
  simp
  omega
theorem filt_len (l : List Nat) : decide (((l.filter isD).length : Int) = (l.length : Int)) = allDig l := by
  have h : (l.filter isD).length = l.length ↔ ∀ c ∈ l, isD c = true := List.length_filter_eq_length_iff
  rw [Bool.eq_iff_iff, decide_eq_true_iff]
  constructor
  · intro z
    refine List.all_eq_true.mpr fun c hc => ?_
    rw [← isD_eq]
    exact h.mp (by omega) c hc
  · intro z
    have := h.mpr fun c hc => by
      rw [isD_eq]
      exact List.all_eq_true.mp z c hc
    omega
theorem lawDig_eq (l : List Nat) : lawDig l = (decide (1 ≤ l.length) && (decide (l.length ≤ 30) && (allDig l && (decide (l = [48]) || !decide (l.head? = some 48))))) := by
  unfold lawDig
  by_cases h : 1 ≤ l.length ∧ l.length ≤ 30 ∧ allDig l = true
  · rw [digIn_some h.1 h.2.1 h.2.2, decide_eq_true h.1, decide_eq_true h.2.1, h.2.2]
    rfl
  · rw [digIn_none h]
    cases h1 : decide (1 ≤ l.length) <;> cases h2 : decide (l.length ≤ 30) <;> cases h3 : allDig l <;> first | rfl | exact absurd ⟨of_decide_eq_true h1, of_decide_eq_true h2, h3⟩ h
section
variable {P : Program} {w : World} {K : PySem.W.Frag} {mg : Str → Option Value} {base : Heap} {A : Ad}
def spIsD : Sp := fun vs H Q _ => ∃ l : List Nat, vs = [.str (S l)] ∧ l.length ≤ 10000 ∧ ∀ H', Same H H' → Q (.bl (lawDig l)) H'
theorem ok_law_is_digits (T : Txt K mg A) : FnOk P w K mg base CX0 1 A.f_law_is_digits A.d_law_is_digits ["word"] spIsD := by
  refine T.F_law_is_digits.ok sc_law_is_digits (fun vs H Q E h => ?_) (fun cdv B outer s H vs Q E hr h => ?_)
  · obtain ⟨l, rfl, _⟩ := h
    rfl
  · obtain ⟨l, rfl, hl, k⟩ := h
    refine ⟨_, (pss_cons (ps_setLc (i := 1) (own := [("sign", 2)]) (g := gName 2) rfl sc_law_is_digits.nd rfl rfl (sw_true rfl rfl rfl (by decide +kernel)) (pi_str (pv 0)) (blkOk_by (N := N_law_is_digits) (sc := defScope s_law_is_digits) (by decide +kernel)) (fun _ _ _ _ _ => (pg_name (i := 2) sc_law_is_digits.nd rfl (Or.inl rfl))) (fun _ _ _ _ _ => pts_one (pt_cmpR op_in_sign (pv 2) pe_str (by rfl))) (fun _ _ _ _ _ => (pv 2)))
      (pss_one (ps_ret (pe_and (pe_chain op_le op_le pe_int (pe_callB call_len_str (by rfl) T.z_len (by decide +kernel) (pa_cons (pv 0) pa_nil)) pe_int) (pe_and (pe_cmpR op_eq (pe_callB call_len_seq (by rfl) T.z_len (by decide +kernel) (pa_cons (pv 1) pa_nil)) (pe_callB call_len_str (by rfl) T.z_len (by decide +kernel) (pa_cons (pv 0) pa_nil)) (nomark _)) (pe_one (pe_or (pe_cmpR op_eq (pv 0) pe_str (nomark _)) (pe_one (pe_cmpR op_ne (pe_ix ix_str (pv 0) pe_int (fun _ _ => rfl)) pe_str (nomark _)))))))))), ?_⟩
    refine ⟨_, rfl, _, rfl, fun D nD => lc_it (walk_str (z := S l)) (fun i Hh => Same H Hh ∧ Hh D = some (.lst (((l.take i).filter isD).map fun c => V.str (S [c])))) ⟨same_new nD, upd_same⟩ ?_ ?_ ?_⟩
    · exact fun _ _ _ _ => True.intro
    · rintro i x Hh H' hi ⟨zz, hD⟩ ⟨rfl, c, hc, rfl⟩
      have hi' : i < l.length := by simpa using hi
      have hc2 : l[i]? = some c := by simpa using hc
      have et : l.take (i + 1) = l.take i ++ [c] := by rw [List.take_add_one, hc2, Option.toList_some]
      refine ⟨rfl, _, rfl, _, _, rfl, rfl, _, rfl, ?_⟩
      cases hd : isD c with
      | true =>
        refine iteT' hd ?_
        refine ⟨_, rfl, _, hD, ?_, same_mut zz nD, ?_⟩
        · rw [List.length_map]
          exact Nat.lt_of_le_of_lt (Nat.le_trans (List.length_filter_le _ _) (by rw [List.length_take]; exact Nat.min_le_left _ _)) (Nat.lt_of_lt_of_le hi' (lt_line hl))
        · rw [upd_same, et, List.filter_append, List.map_append]
          simp [List.filter, hd]
      | false =>
        refine iteF' hd ?_
        refine ⟨zz, ?_⟩
        rw [et, List.filter_append, hD]
        simp [List.filter, hd]
    rintro Hh ⟨zz, hD⟩
    rw [show (S l).cps.size = l.length by simp, List.take_length] at hD
    refine stT (σ' := [some (.str (S l)), some (.ref D), none]) rfl ?_
    rw [lawDig_eq] at k
    have lm : (((l.filter isD).map fun c => V.str (S [c])).length : Int) = ((l.filter isD).length : Int) := by simp
    refine ⟨_, rfl, _, rfl, by rw [len_S]; exact lt_line hl, _, _, rfl, rfl, _, rfl, ?_⟩
    rw [len_S]
    by_cases c1 : 1 ≤ l.length
    case neg =>
      refine iteF' (decide_eq_false (by omega)) ?_
      rw [decide_eq_false c1] at k
      exact ⟨_, rfl, iteF' rfl (k _ zz)⟩
    refine iteT' (decide_eq_true (by omega)) ?_
    rw [decide_eq_true c1] at k
    refine ⟨_, _, rfl, rfl, _, rfl, ?_⟩
    by_cases c2 : l.length ≤ 30
    case neg =>
      refine iteF' (decide_eq_false (by omega)) ?_
      rw [decide_eq_false c2] at k
      exact k _ zz
    refine iteT' (decide_eq_true (by omega)) ?_
    rw [decide_eq_true c2] at k
    refine ⟨_, rfl, D, _, rfl, Or.inl (SqL.of hD), _, rfl, _, rfl, by rw [len_S]; exact lt_line hl, rfl, _, rfl, ?_⟩
    have e3 : decide (V.int (((l.filter isD).map fun c => V.str (S [c])).length : Int) = V.int ((S l).length : Int)) = allDig l := by
      rw [lm, len_S, ← filt_len]
      exact decide_eq_decide.mpr ⟨fun e => by injection e, fun e => by rw [e]⟩
    rw [e3]
    cases c3 : allDig l with
    | false =>
      rw [c3] at k
      exact iteF' rfl (k _ zz)
    | true =>
    rw [c3] at k
    refine iteT' rfl ?_
    have e48 : ("0" : Str) = S [48] := by decide +kernel
    refine ⟨_, rfl, rfl, _, rfl, ?_⟩
    by_cases c4 : l = [48]
    · refine iteT' (decide_eq_true (by rw [c4]; decide +kernel)) ?_
      rw [decide_eq_true c4] at k
      exact k _ zz
    have n4 : ¬ (V.str (S l) = V.str "0") := fun z => by
      rw [e48] at z
      exact c4 (S_eq.mp z)
    refine iteF' (decide_eq_false n4) ?_
    rw [decide_eq_false c4] at k
    obtain ⟨c0, r, rfl⟩ := List.exists_cons_of_ne_nil (show l ≠ [] by intro e; rw [e] at c1; simp at c1)
    refine ⟨_, rfl, _, _, c0, rfl, rfl, by rw [len_S]; exact lt_line hl, atI_zero _ _, rfl, ?_⟩
    have e5 : (!decide (V.str (⟨#[c0]⟩ : Str) = V.str "0")) = !decide ((c0 :: r).head? = some 48) := by
      rw [e48]
      refine congrArg Bool.not (decide_eq_decide.mpr ?_)
      constructor
      · intro z
        have := S_eq (a := [c0]) (b := [48]) |>.mp z
        simp at this
        rw [this]
        rfl
      · intro z
        simp at z
        rw [z]
    rw [e5]
    exact k _ zz
def PairO (H : Hp) (v : V) : Option (Int × Int) → Prop
  | some (t, b) => ∃ a, v = .ref a ∧ H a = some (.tup [.int t, .int b])
  | none => v = .non
theorem cut_head (l : List Nat) : cutS (S l) none (some 1) = S (l.take 1) := by
  unfold cutS
  rw [len_S]
  show (⟨((l.drop 0).take (min 1 l.length - 0)).toArray⟩ : Str) = S (l.take 1)
  rw [List.drop_zero, Nat.sub_zero]
  cases l with
  | nil => rfl
  | cons c r => simp
theorem head_dec (l : List Nat) : decide (V.str (cutS (S l) none (some 1)) = V.str "-") = decide (l.head? = some 45) := by
  rw [cut_head, e45]
  refine decide_eq_decide.mpr ?_
  rw [S_eq]
  cases l with
  | nil => simp
  | cons c r => simp
def numOf (l : List Nat) : List (List Nat) → Option (Int × Int)
  | [a] => if lawDig a then (if decide (NumText.digitsVal a = 0) && !decide (l = [48]) then none else some (sgn l * (NumText.digitsVal a : Int), 1)) else none
  | [a, c] => if lawDig a && lawDig c then
      (if decide (NumText.digitsVal c = 0) || (decide (NumText.digitsVal c = 1) || !decide ((Rat.divInt (NumText.digitsVal a : Int) (NumText.digitsVal c : Int)).num = (NumText.digitsVal a : Int) ∧ (Rat.divInt (NumText.digitsVal a : Int) (NumText.digitsVal c : Int)).den = NumText.digitsVal c)) then none
       else if decide (NumText.digitsVal a = 0) && !decide (l = [48]) then none else some (sgn l * (NumText.digitsVal a : Int), (NumText.digitsVal c : Int))) else none
  | _ => none
def spNumOf : Sp := fun vs H Q _ => ∃ l : List Nat, vs = [.str (S l)] ∧ l.length ≤ 10000 ∧ ∀ r H', Same H H' → PairO H' r (lawNum l) → Q r H'
theorem ok_law_number_of (T : Txt K mg A) : FnOk P w K mg base CX0 2 A.f_law_number_of A.d_law_number_of ["word"] spNumOf := by
  refine T.F_law_number_of.ok sc_law_number_of (fun vs H Q E h => ?_) (fun cdv B outer s H vs Q E hr h => ?_)
  · obtain ⟨l, rfl, _⟩ := h
    rfl
  · obtain ⟨l, rfl, hl, k⟩ := h
    have hr1 : Room 1 _ := hr.mono (by decide)
    refine ⟨_, (Evl.pss_cut (ps_set (i := 1) sc_law_number_of.nd rfl (Or.inl rfl) (pe_ifExp (pt_cmpR op_eq (pe_slice sl_str (pv 0) po_none (po_some pe_int)) pe_str (nomark _)) (pe_slice sl_str (pv 0) (po_some pe_int) po_none) (pv 0)))
      (pss_cons (ps_set (i := 2) sc_law_number_of.nd rfl (Or.inl rfl) (pe_split (pv 1) pe_str))
      (pss_cons (ps_if (PW.pt (pw_or (pt_cmpR op_gt (pe_callB call_len_seq (by rfl) T.z_len (by decide +kernel) (pa_cons (pv 2) pa_nil)) pe_int (nomark _)) (pw_or1 (pt_not (pt_val (pe_callB (cr_all rfl) (by rfl) T.z_all (by decide +kernel) (pa_cons (pe_lc (own := [("part", 3)]) (g := gName 3) (tt := tYes) rfl sc_law_number_of.nd (pi_list (pv 2)) (blkOk_by (N := N_law_number_of) (sc := defScope s_law_number_of) (by decide +kernel)) (fun _ _ _ _ _ => (pg_name (i := 3) sc_law_number_of.nd rfl (Or.inl rfl))) (fun _ _ _ _ _ => pts_nil) (fun _ _ _ _ _ => (pe_call (ok_law_is_digits T) hr1 rfl T.g_law_is_digits T.F_law_is_digits.kp T.b_law_is_digits .nil pass0 (pa_cons (pv 3) pa_nil)))) pa_nil))))))) (pss_one (ps_ret pe_non)) pss_nil)
      (pss_cons (ps_par (i := 4) (j := 5) rfl sc_law_number_of.nd rfl rfl (by decide) rfl rfl (pa_cons (pe_callTy call_int_str (by rfl) T.z_int (by decide +kernel) (pa_cons (pe_ix ix_list (pv 2) pe_int (fun _ _ => rfl)) pa_nil)) (pa_cons (pe_ifExp (pt_cmpR op_eq (pe_callB call_len_seq (by rfl) T.z_len (by decide +kernel) (pa_cons (pv 2) pa_nil)) pe_int (nomark _)) (pe_callTy call_int_str (by rfl) T.z_int (by decide +kernel) (pa_cons (pe_ix ix_list (pv 2) pe_int (fun _ _ => rfl)) pa_nil)) pe_int) pa_nil)) (by rfl))
      (pss_cons (ps_if (PW.pt (pw_or (pt_cmpR op_eq (pv 5) pe_int (nomark _)) (pw_or1 (PW.pt (pw_and (pt_cmpR op_eq (pe_callB call_len_seq (by rfl) T.z_len (by decide +kernel) (pa_cons (pv 2) pa_nil)) pe_int (nomark _)) (pw_and1 (PW.pt (pw_or (pt_cmpR op_eq (pv 5) pe_int (nomark _)) (pw_or1 (pt_cmpR (opNeD K hr.units) (pe_call (ok_law_lowest T) hr1 rfl T.g_law_lowest T.F_law_lowest.kp T.b_law_lowest .nil pass0 (pa_cons (pv 4) (pa_cons (pv 5) pa_nil))) (pe_tup (pa_cons (pv 4) (pa_cons (pv 5) pa_nil))) (nomark _))))))))))) (pss_one (ps_ret pe_non)) pss_nil)
      (Evl.pss_cut (ps_if (PW.pt (pw_and (pt_cmpR op_eq (pv 4) pe_int (nomark _)) (pw_and1 (pt_cmpR op_ne (pv 0) pe_str (nomark _))))) (pss_one (ps_ret pe_non)) pss_nil)
      (pss_one (ps_ret (pe_tup (pa_cons (pe_ifExp (pt_cmpR op_eq (pe_slice sl_str (pv 0) po_none (po_some pe_int)) pe_str (nomark _)) (pe_un un_neg (pv 4)) (pv 4)) (pa_cons (pv 5) pa_nil))))))))))), ?_⟩
    refine ⟨fun σ' H' => σ' = [some (.str (S l)), some (.str (S (body l))), none, none, none, none] ∧ H = H', ?_, ?_⟩
    · refine ⟨_, rfl, _, rfl, _, rfl, by rw [len_S]; exact lt_line hl, rfl, _, rfl, ?_⟩
      rw [head_dec]
      by_cases h0 : l.head? = some 45
      · refine iteT' (decide_eq_true h0) ?_
        refine ⟨_, rfl, _, rfl, _, rfl, by rw [len_S]; exact lt_line hl, ?_, rfl⟩
        rw [cut_tail]
        unfold body
        rw [if_pos h0]
        rfl
      · refine iteF' (decide_eq_false h0) ?_
        refine ⟨_, rfl, ?_, rfl⟩
        unfold body
        rw [if_neg h0]
        rfl
    rintro σ' H' ⟨rfl, rfl⟩
    have lb := body_len l
    refine ⟨_, rfl, ⟨_, rfl⟩, _, _, rfl, rfl, by decide +kernel, by rw [len_S, sizeLine_eq]; omega, fun p np => ?_⟩
    rw [e47, SX.split_S (by simp) (by decide)]
    have s1 := same_new (o := .lst (((TL.spl [47] 0 [] (body l)).map SX.S).map V.str)) np
    have ep : (upd H p (.lst (((TL.spl [47] 0 [] (body l)).map SX.S).map V.str))) p = some (.lst (((TL.spl [47] 0 [] (body l)).map SX.S).map V.str)) := upd_same
    have lw := spl_len [47] (body l) 0 []
    generalize hws : TL.spl [47] 0 [] (body l) = ws at *
    generalize upd H p (.lst ((ws.map SX.S).map V.str)) = H1 at *
    refine stT (σ' := [some (.str (S l)), some (.str (S (body l))), some (.ref p), none, none, none]) rfl ?_
    have kn : lawNum l = numOf l ws := by
      unfold lawNum numOf
      rw [hws] <;> rfl
    rw [kn] at k
    have hne : ws ≠ [] := by
      rw [← hws, spl_par]
      cases TL.par [47] [] (body l) <;> simp
    refine ⟨_, rfl, p, _, rfl, Or.inl (SqL.of ep), _, _, rfl, rfl, _, rfl, ?_⟩
    by_cases c2 : 2 < ws.length
    · refine iteT' (decide_eq_true (by simp; omega)) ?_
      have e : numOf l ws = none := by
        match ws, c2 with
        | _ :: _ :: _ :: _, _ => rfl
      rw [e] at k
      exact k _ _ s1 rfl
    refine iteF' (decide_eq_false (by simp; omega)) ?_
    refine ⟨_, rfl, p, rfl, ⟨_, SqL.of ep⟩, fun D nD => lc_list (K := K) (a := p) (xs := (ws.map SX.S).map V.str) (fun i Hh => Same H1 Hh ∧ Hh D = some (.lst (((ws.take i).map lawDig).map V.bl)))
      ⟨same_new nD, upd_same⟩ (fun i Hh _ hh => SqL.of (hh.1 _ _ ep)) ?_ ?_⟩
    · rintro i x Hh hi ⟨zz, hD⟩
      obtain ⟨v, hv, rfl⟩ : ∃ v, ws[i]? = some v ∧ x = .str (S v) := by
        rw [List.getElem?_map, List.getElem?_map] at hi
        cases e : ws[i]? with
        | none => rw [e] at hi; cases hi
        | some v => rw [e] at hi; exact ⟨v, rfl, (Option.some.inj hi).symm⟩
      have lv : v.length ≤ 10000 := by
        have := lw v (List.mem_of_getElem? hv)
        rw [List.length_nil, Nat.zero_add] at this
        omega
      have hi' : i < ws.length := (List.getElem?_eq_some_iff.mp hv).1
      refine ⟨rfl, yes_of ?_⟩
      refine iteT ?_
      refine ⟨_, rfl, v, rfl, lv, fun H4 s4 => ?_⟩
      refine ⟨_, s4 _ _ hD, ?_, same_mut (zz.trans s4) nD, ?_⟩
      · rw [List.length_map, List.length_map, List.length_take]
        exact Nat.lt_of_le_of_lt (Nat.min_le_left _ _) (Nat.lt_of_lt_of_le hi' (lt_line (by omega)))
      · rw [upd_same, List.take_add_one, hv, Option.toList_some, List.map_append, List.map_append]
        rfl
    rintro Hh ⟨zz, hD⟩
    rw [show ((ws.map SX.S).map V.str).length = ws.length by simp, List.take_length] at hD
    have s1 := s1.trans zz
    have ep := zz _ _ ep
    refine ⟨D, _, rfl, SqL.of hD, _, rfl, ?_⟩
    have all_no : (ws.map lawDig).all id = false → numOf l ws = none := fun h => by
      match ws, hne, c2 with
      | [a], _, _ =>
        have h : (lawDig a && true) = false := h
        rw [Bool.and_true] at h
        show (if lawDig a = true then _ else none) = none
        rw [h, if_neg Bool.false_ne_true]
      | [a, c], _, _ =>
        have h : (lawDig a && (lawDig c && true)) = false := h
        rw [Bool.and_true] at h
        show (if (lawDig a && lawDig c) = true then _ else none) = none
        rw [h, if_neg Bool.false_ne_true]
      | _ :: _ :: _ :: _, _, h2 => exact absurd (by simp) h2
    cases hall : (ws.map lawDig).all id with
    | false =>
      refine iteT' rfl ?_
      rw [all_no hall] at k
      exact k _ _ s1 rfl
    | true =>
    refine iteF' rfl ?_
    have shape : (∃ a, ws = [a]) ∨ ∃ a c, ws = [a, c] := by
      match ws, hne, c2 with
      | [a], _, _ => exact .inl ⟨a, rfl⟩
      | [a, c], _, _ => exact .inr ⟨a, c, rfl⟩
      | _ :: _ :: _ :: _, _, h2 => exact absurd (by simp) h2
    have dp : ∀ a, lawDig a = true → a ≠ [] ∧ a.length ≤ 30 ∧ allDig a = true := fun a h => by
      obtain ⟨n, h1, _⟩ := num_dig h
      by_cases c : 1 ≤ a.length ∧ a.length ≤ 30 ∧ allDig a = true
      · exact ⟨(digIn_dig h1).2.1, c.2.1, c.2.2⟩
      · rw [digIn_none c] at h1
        cases h1
    clear lw all_no hne c2 hD nD zz hws
    rcases shape with ⟨a, rfl⟩ | ⟨a, c, rfl⟩
    · have ha : lawDig a = true := by
        have h : (lawDig a && true) = true := hall
        rw [Bool.and_true] at h
        exact h
      have qa := dp a ha
      have k : ∀ r H', Same H H' → PairO H' r (if lawDig a then (if decide (NumText.digitsVal a = 0) && !decide (l = [48]) then none else some (sgn l * (NumText.digitsVal a : Int), 1)) else none) → Q r H' := k
      rw [if_pos ha] at k
      refine ⟨_, rfl, p, _, _, _, rfl, rfl, SqL.of ep, rfl, _, _, rfl, SX.int_S qa.2.2 qa.1 (by have := qa.2.1; omega), by rw [len_S]; have := qa.2.1; omega, _, rfl, p, _, rfl, Or.inl (SqL.of ep), rfl, _, rfl, ?_⟩
      refine iteF' (dint_ne (by simp)) ?_
      refine ⟨_, _, rfl, ?_⟩
      refine stT (σ' := [some (.str (S l)), some (.str (S (body l))), some (.ref p), none, some (.int (NumText.digitsVal a : Int)), some (.int 1)]) rfl ?_
      refine ⟨_, rfl, rfl, _, rfl, ?_⟩
      refine iteF' (dint_ne (by decide)) ?_
      refine ⟨_, rfl, p, _, rfl, Or.inl (SqL.of ep), rfl, _, rfl, ?_⟩
      refine iteF' (dint_ne (by simp)) ?_
      refine ⟨fun σ' H' => σ' = [some (.str (S l)), some (.str (S (body l))), some (.ref p), none, some (.int (NumText.digitsVal a : Int)), some (.int 1)] ∧ Hh = H' ∧ (decide (NumText.digitsVal a = 0) && !decide (l = [48])) = false, ?_, ?_⟩
      · refine ⟨_, rfl, rfl, _, rfl, ?_⟩
        by_cases hz : NumText.digitsVal a = 0
        · refine iteT' (dint_eq (by omega)) ?_
          refine ⟨_, rfl, rfl, _, rfl, ?_⟩
          by_cases h48 : l = [48]
          · refine iteF' (by rw [h48]; decide +kernel) ⟨rfl, rfl, ?_⟩
            rw [decide_eq_true h48]
            simp
          · have n4 : ¬ (V.str (S l) = V.str "0") := fun z => by
              rw [show ("0" : Str) = S [48] by decide +kernel] at z
              exact h48 (S_eq.mp z)
            refine iteT' (by rw [decide_eq_false n4]; rfl) ?_
            rw [if_pos (by rw [decide_eq_true hz, decide_eq_false h48]; rfl)] at k
            exact k _ _ s1 rfl
        · refine iteF' (dint_ne (by omega)) ⟨rfl, rfl, ?_⟩
          rw [decide_eq_false hz]
          rfl
      rintro σ' H' ⟨rfl, rfl, hcz⟩
      rw [hcz, if_neg Bool.false_ne_true] at k
      refine ⟨_, rfl, _, rfl, _, rfl, by rw [len_S]; exact lt_line hl, rfl, _, rfl, ?_⟩
      rw [head_dec]
      have es : sgn l = if l.head? = some 45 then -1 else 1 := rfl
      by_cases h0 : l.head? = some 45
      · refine iteT' (decide_eq_true h0) ?_
        rw [es, if_pos h0] at k
        refine ⟨_, rfl, _, rfl, _, rfl, by show 2 ≤ sizeLine; decide, fun r nr => ?_⟩
        refine k _ _ (s1.trans (same_new nr)) ⟨r, rfl, ?_⟩
        rw [upd_same, show (-1 : Int) * (NumText.digitsVal a : Int) = -(NumText.digitsVal a : Int) by omega]
      · refine iteF' (decide_eq_false h0) ?_
        rw [es, if_neg h0, Int.one_mul] at k
        refine ⟨_, rfl, _, rfl, by show 2 ≤ sizeLine; decide, fun r nr => ?_⟩
        exact k _ _ (s1.trans (same_new nr)) ⟨r, rfl, upd_same⟩
    · have hac : lawDig a = true ∧ lawDig c = true := by
        have h : (lawDig a && (lawDig c && true)) = true := hall
        rw [Bool.and_true, Bool.and_eq_true] at h
        exact h
      have qa := dp a hac.1
      have qc := dp c hac.2
      have k : ∀ r H', Same H H' → PairO H' r (if lawDig a && lawDig c then
        (if decide (NumText.digitsVal c = 0) || (decide (NumText.digitsVal c = 1) || !decide ((Rat.divInt (NumText.digitsVal a : Int) (NumText.digitsVal c : Int)).num = (NumText.digitsVal a : Int) ∧ (Rat.divInt (NumText.digitsVal a : Int) (NumText.digitsVal c : Int)).den = NumText.digitsVal c)) then none
         else if decide (NumText.digitsVal a = 0) && !decide (l = [48]) then none else some (sgn l * (NumText.digitsVal a : Int), (NumText.digitsVal c : Int))) else none) → Q r H' := k
      rw [hac.1, hac.2, if_pos (by rfl)] at k
      refine ⟨_, rfl, p, _, _, _, rfl, rfl, SqL.of ep, rfl, _, _, rfl, SX.int_S qa.2.2 qa.1 (by have := qa.2.1; omega), by rw [len_S]; have := qa.2.1; omega, _, rfl, p, _, rfl, Or.inl (SqL.of ep), rfl, _, rfl, ?_⟩
      refine iteT' (dint_eq (by simp)) ?_
      refine ⟨_, rfl, p, _, _, _, rfl, rfl, SqL.of ep, rfl, _, _, rfl, SX.int_S qc.2.2 qc.1 (by have := qc.2.1; omega), by rw [len_S]; have := qc.2.1; omega, _, _, rfl, ?_⟩
      refine stT (σ' := [some (.str (S l)), some (.str (S (body l))), some (.ref p), none, some (.int (NumText.digitsVal a : Int)), some (.int (NumText.digitsVal c : Int))]) rfl ?_
      refine ⟨_, rfl, rfl, _, rfl, ?_⟩
      by_cases d0 : NumText.digitsVal c = 0
      · refine iteT' (dint_eq (by omega)) ?_
        rw [if_pos (by rw [decide_eq_true d0]; rfl)] at k
        exact k _ _ s1 rfl
      refine iteF' (dint_ne (by omega)) ?_
      rw [decide_eq_false d0, Bool.false_or] at k
      refine ⟨_, rfl, p, _, rfl, Or.inl (SqL.of ep), rfl, _, rfl, ?_⟩
      refine iteT' (dint_eq (by simp)) ?_
      refine ⟨_, rfl, rfl, _, rfl, ?_⟩
      by_cases d1 : NumText.digitsVal c = 1
      · refine iteT' (dint_eq (by omega)) ?_
        rw [if_pos (by rw [decide_eq_true d1]; rfl)] at k
        exact k _ _ s1 rfl
      refine iteF' (dint_ne (by omega)) ?_
      rw [decide_eq_false d1, Bool.false_or] at k
      have lt30 : NumText.digitsVal c < 10 ^ 30 := by
        obtain ⟨n, h1, h2⟩ := num_dig hac.2
        rw [← h2, TL.numL_val]
        exact WR.digIn_lt h1
      refine ⟨_, rfl, _, rfl, (NumText.digitsVal a : Int), (NumText.digitsVal c : Int), rfl, by omega, up_lt (show ((NumText.digitsVal c : Int)).natAbs < 2 ^ 100 from Nat.lt_of_lt_of_le lt30 ten30) (by decide), fun r H4 s4 nr er => ?_⟩
      refine ⟨_, rfl, _, rfl, by show 2 ≤ sizeLine; decide, fun u nu => ?_⟩
      have s5 := same_new (o := .tup [.int (NumText.digitsVal a : Int), .int (NumText.digitsVal c : Int)]) nu
      have er5 := s5 _ _ er
      refine ⟨.tuple [.int (Rat.divInt (NumText.digitsVal a : Int) (NumText.digitsVal c : Int)).num, .int ((Rat.divInt (NumText.digitsVal a : Int) (NumText.digitsVal c : Int)).den : Int)], .tuple [.int (NumText.digitsVal a : Int), .int (NumText.digitsVal c : Int)], .tup (SqT.of er5) (.cons (.int _) (.cons (.int _) .nil)), .tup (SqT.of upd_same) (.cons (.int _) (.cons (.int _) .nil)), rfl, rfl, _, rfl, ?_⟩
      have s9 := (s1.trans s4).trans s5
      have ee : PyData.eqv (.tuple [.int (Rat.divInt (NumText.digitsVal a : Int) (NumText.digitsVal c : Int)).num, .int ((Rat.divInt (NumText.digitsVal a : Int) (NumText.digitsVal c : Int)).den : Int)]) (.tuple [.int (NumText.digitsVal a : Int), .int (NumText.digitsVal c : Int)]) = decide ((Rat.divInt (NumText.digitsVal a : Int) (NumText.digitsVal c : Int)).num = (NumText.digitsVal a : Int) ∧ (Rat.divInt (NumText.digitsVal a : Int) (NumText.digitsVal c : Int)).den = NumText.digitsVal c) := by
        show (((Rat.divInt (NumText.digitsVal a : Int) (NumText.digitsVal c : Int)).num == (NumText.digitsVal a : Int)) && ((((Rat.divInt (NumText.digitsVal a : Int) (NumText.digitsVal c : Int)).den : Int) == (NumText.digitsVal c : Int)) && true)) = _
        rw [Bool.and_true, Bool.eq_iff_iff, Bool.and_eq_true, decide_eq_true_iff, beq_iff_eq, beq_iff_eq]
        constructor <;> (rintro ⟨h1, h2⟩; exact ⟨h1, by omega⟩)
      rw [ee]
      generalize upd H4 u (.tup [.int (NumText.digitsVal a : Int), .int (NumText.digitsVal c : Int)]) = H5 at *
      cases hr9 : decide ((Rat.divInt (NumText.digitsVal a : Int) (NumText.digitsVal c : Int)).num = (NumText.digitsVal a : Int) ∧ (Rat.divInt (NumText.digitsVal a : Int) (NumText.digitsVal c : Int)).den = NumText.digitsVal c) with
      | false =>
        refine iteT' rfl ?_
        rw [hr9, if_pos (by rfl)] at k
        exact k _ _ s9 rfl
      | true =>
      refine iteF' rfl ?_
      rw [hr9, if_neg (by decide)] at k
      refine ⟨fun σ' H' => σ' = [some (.str (S l)), some (.str (S (body l))), some (.ref p), none, some (.int (NumText.digitsVal a : Int)), some (.int (NumText.digitsVal c : Int))] ∧ H5 = H' ∧ (decide (NumText.digitsVal a = 0) && !decide (l = [48])) = false, ?_, ?_⟩
      · refine ⟨_, rfl, rfl, _, rfl, ?_⟩
        by_cases hz : NumText.digitsVal a = 0
        · refine iteT' (dint_eq (by omega)) ?_
          refine ⟨_, rfl, rfl, _, rfl, ?_⟩
          by_cases h48 : l = [48]
          · refine iteF' (by rw [h48]; decide +kernel) ⟨rfl, rfl, ?_⟩
            rw [decide_eq_true h48]
            simp
          · have n4 : ¬ (V.str (S l) = V.str "0") := fun z => by
              rw [show ("0" : Str) = S [48] by decide +kernel] at z
              exact h48 (S_eq.mp z)
            refine iteT' (by rw [decide_eq_false n4]; rfl) ?_
            rw [if_pos (by rw [decide_eq_true hz, decide_eq_false h48]; rfl)] at k
            exact k _ _ s9 rfl
        · refine iteF' (dint_ne (by omega)) ⟨rfl, rfl, ?_⟩
          rw [decide_eq_false hz]
          rfl
      rintro σ' H' ⟨rfl, rfl, hcz⟩
      rw [hcz, if_neg Bool.false_ne_true] at k
      refine ⟨_, rfl, _, rfl, _, rfl, by rw [len_S]; exact lt_line hl, rfl, _, rfl, ?_⟩
      rw [head_dec]
      have es : sgn l = if l.head? = some 45 then -1 else 1 := rfl
      by_cases h0 : l.head? = some 45
      · refine iteT' (decide_eq_true h0) ?_
        rw [es, if_pos h0] at k
        refine ⟨_, rfl, _, rfl, _, rfl, by show 2 ≤ sizeLine; decide, fun r nr => ?_⟩
        refine k _ _ (s9.trans (same_new nr)) ⟨r, rfl, ?_⟩
        rw [upd_same, show (-1 : Int) * (NumText.digitsVal a : Int) = -(NumText.digitsVal a : Int) by omega]
      · refine iteF' (decide_eq_false h0) ?_
        rw [es, if_neg h0, Int.one_mul] at k
        refine ⟨_, rfl, _, rfl, by show 2 ≤ sizeLine; decide, fun r nr => ?_⟩
        exact k _ _ (s9.trans (same_new nr)) ⟨r, rfl, upd_same⟩
end
/-! ### _law_is_line, _law_is_stretch, _law_due -/
theorem cut_last (l : List Nat) : cutS (S l) (some (-1)) none = S (l.drop (l.length - 1)) := by
  unfold cutS
  rw [len_S]
  show (⟨((l.drop ((-1 + (l.length : Int)).toNat)).take (l.length - (-1 + (l.length : Int)).toNat)).toArray⟩ : Str) = S (l.drop (l.length - 1))
  rw [show (-1 + (l.length : Int)).toNat = l.length - 1 by omega, List.take_of_length_le (by simp)]
theorem drop_last (l : List Nat) (c : Nat) : l.drop (l.length - 1) = [c] ↔ l.getLast? = some c := by
  rcases List.eq_nil_or_concat l with rfl | ⟨m, x, rfl⟩
  · simp
  · rw [List.concat_eq_append, List.getLast?_concat, List.length_append, List.length_singleton, Nat.add_sub_cancel, List.drop_left]
    simp
theorem last_dec (l : List Nat) : decide (V.str (cutS (S l) (some (-1)) none) = V.str "s") = decide (l.getLast? = some 115) := by
  rw [cut_last, e115]
  exact decide_eq_decide.mpr (S_eq.trans (drop_last l 115))
def lineOf (l : List Nat) : List (List Nat) → Bool
  | [_] => if l.getLast? = some 115 then (match lawNum l.dropLast with | some r => !decide (r.1 = 0) | none => false) else (lawNum l).isSome
  | [a, s, c] => if (s = [43] ∨ s = [45]) ∧ c.getLast? = some 115 then (match lawNum a, lawNum c.dropLast with | some b, some t => !decide (b.1 = 0) && decide (0 < t.1) | _, _ => false) else false
  | _ => false
theorem line_of (l : List Nat) : lawLine l = lineOf l (TL.spl [32] 0 [] l) := by
  unfold lawLine lineOf
  rfl
theorem line_no {l : List Nat} {ws : List (List Nat)} (h1 : ws.length ≠ 1) (h3 : ws.length ≠ 3) : lineOf l ws = false := by
  match ws, h1, h3 with
  | [], _, _ => rfl
  | [_], h, _ => exact absurd rfl h
  | [_, _], _, _ => rfl
  | [_, _, _], _, h => exact absurd rfl h
  | _ :: _ :: _ :: _ :: _, _, _ => rfl
theorem not_non (r : V) (H : Hp) (o : Option (Int × Int)) (h : PairO H r o) : (!decide (r = V.non)) = o.isSome := by
  cases o with
  | none => rw [show r = V.non from h]; simp
  | some x =>
    obtain ⟨a, e, _⟩ := h
    rw [e]
    simp
section
variable {P : Program} {w : World} {K : PySem.W.Frag} {mg : Str → Option Value} {base : Heap} {A : Ad}
def spIsLine : Sp := fun vs H Q _ => ∃ l : List Nat, vs = [.str (S l)] ∧ l.length ≤ 10000 ∧ ∀ H', Same H H' → Q (.bl (lawLine l)) H'
theorem ok_law_is_line (T : Txt K mg A) : FnOk P w K mg base CX0 3 A.f_law_is_line A.d_law_is_line ["text"] spIsLine := by
  refine T.F_law_is_line.ok sc_law_is_line (fun vs H Q E h => ?_) (fun cdv B outer s H vs Q E hr h => ?_)
  · obtain ⟨l, rfl, _⟩ := h
    rfl
  · obtain ⟨l, rfl, hl, k⟩ := h
    have hr2 : Room 2 _ := hr.mono (by decide)
    refine ⟨_, (pss_cons (ps_set (i := 1) sc_law_is_line.nd rfl (Or.inl rfl) (pe_split (pv 0) pe_str))
      (pss_cons (ps_if (PW.pt (pw_and (pt_cmpR op_eq (pe_callB call_len_seq (by rfl) T.z_len (by decide +kernel) (pa_cons (pv 1) pa_nil)) pe_int (nomark _)) (pw_and1 (pt_cmpR op_eq (pe_slice sl_str (pv 0) (po_some (pe_un un_neg pe_int)) po_none) pe_str (nomark _))))) (pss_cons (ps_set (i := 2) sc_law_is_line.nd rfl (Or.inl rfl) (pe_call (ok_law_number_of T) hr2 rfl T.g_law_number_of T.F_law_number_of.kp T.b_law_number_of .nil pass0 (pa_cons (pe_slice sl_str (pv 0) po_none (po_some (pe_un un_neg pe_int))) pa_nil)))
      (pss_one (ps_ret (pe_and (pe_cmp (pc_notN (pv 2))) (pe_one (pe_cmpR op_ne (pe_ix ix_tup (pv 2) pe_int (fun _ _ => rfl)) pe_int (nomark _))))))) pss_nil)
      (pss_cons (ps_if (pt_cmpR op_eq (pe_callB call_len_seq (by rfl) T.z_len (by decide +kernel) (pa_cons (pv 1) pa_nil)) pe_int (nomark _)) (pss_one (ps_ret (pe_cmp (pc_notN (pe_call (ok_law_number_of T) hr2 rfl T.g_law_number_of T.F_law_number_of.kp T.b_law_number_of .nil pass0 (pa_cons (pv 0) pa_nil)))))) pss_nil)
      (pss_cons (ps_if (PW.pt (pw_or (pt_cmpR op_ne (pe_callB call_len_seq (by rfl) T.z_len (by decide +kernel) (pa_cons (pv 1) pa_nil)) pe_int (nomark _)) (pw_or (pt_cmpR op_notIn_seq (pe_ix ix_list (pv 1) pe_int (fun _ _ => rfl)) (pe_tup (pa_cons pe_str (pa_cons pe_str pa_nil))) (by rfl)) (pw_or1 (pt_cmpR op_ne (pe_slice sl_str (pe_ix ix_list (pv 1) pe_int (fun _ _ => rfl)) (po_some (pe_un un_neg pe_int)) po_none) pe_str (nomark _)))))) (pss_one (ps_ret pe_bl)) pss_nil)
      (pss_cons (ps_par (i := 3) (j := 2) rfl sc_law_is_line.nd rfl rfl (by decide) rfl rfl (pa_cons (pe_call (ok_law_number_of T) hr2 rfl T.g_law_number_of T.F_law_number_of.kp T.b_law_number_of .nil pass0 (pa_cons (pe_ix ix_list (pv 1) pe_int (fun _ _ => rfl)) pa_nil)) (pa_cons (pe_call (ok_law_number_of T) hr2 rfl T.g_law_number_of T.F_law_number_of.kp T.b_law_number_of .nil pass0 (pa_cons (pe_slice sl_str (pe_ix ix_list (pv 1) pe_int (fun _ _ => rfl)) po_none (po_some (pe_un un_neg pe_int))) pa_nil)) pa_nil)) (by rfl))
      (pss_one (ps_ret (pe_and (pe_cmp (pc_notN (pv 3))) (pe_and (pe_cmp (pc_notN (pv 2))) (pe_and (pe_cmpR op_ne (pe_ix ix_tup (pv 3) pe_int (fun _ _ => rfl)) pe_int (nomark _)) (pe_one (pe_cmpR op_gt (pe_ix ix_tup (pv 2) pe_int (fun _ _ => rfl)) pe_int (nomark _))))))))))))), ?_⟩
    refine ⟨_, rfl, ⟨_, rfl⟩, _, _, rfl, rfl, by decide +kernel, by rw [len_S, sizeLine_eq]; omega, fun p np => ?_⟩
    rw [e32, SX.split_S (by simp) (by decide)]
    have s1 := same_new (o := .lst (((TL.spl [32] 0 [] l).map SX.S).map V.str)) np
    have ep : (upd H p (.lst (((TL.spl [32] 0 [] l).map SX.S).map V.str))) p = some (.lst (((TL.spl [32] 0 [] l).map SX.S).map V.str)) := upd_same
    have lw := spl_len [32] l 0 []
    rw [line_of] at k
    generalize TL.spl [32] 0 [] l = ws at *
    generalize upd H p (.lst ((ws.map SX.S).map V.str)) = H1 at *
    refine stT (σ' := [some (.str (S l)), some (.ref p), none, none]) rfl ?_
    refine ⟨_, rfl, p, _, rfl, Or.inl (SqL.of ep), rfl, _, rfl, ?_⟩
    by_cases c1 : ws.length = 1
    · refine iteT' (dint_eq (by simp [c1])) ?_
      obtain ⟨w1, rfl⟩ : ∃ w1, ws = [w1] := List.length_eq_one_iff.mp c1
      have k : ∀ H', Same H H' → Q (.bl (if l.getLast? = some 115 then (match lawNum l.dropLast with | some r => !decide (r.1 = 0) | none => false) else (lawNum l).isSome)) H' := k
      refine ⟨_, rfl, _, rfl, _, rfl, _, rfl, by rw [len_S]; exact lt_line (by omega), rfl, _, rfl, ?_⟩
      rw [last_dec]
      by_cases h : l.getLast? = some 115
      · refine iteT' (decide_eq_true h) ?_
        rw [if_pos h] at k
        refine ⟨_, rfl, _, rfl, _, rfl, _, rfl, by rw [len_S]; exact lt_line (by omega), ?_⟩
        rw [cut_init]
        refine ⟨l.dropLast, rfl, by simp; omega, fun r H2 s2 hr => ?_⟩
        refine stT (σ' := [some (.str (S l)), some (.ref p), some (r), none]) rfl ?_
        refine ⟨_, rfl, _, rfl, ?_⟩
        rw [not_non r H2 _ hr]
        cases e : lawNum l.dropLast with
        | none =>
          rw [e] at k
          exact iteF' rfl (k _ (s1.trans s2))
        | some x =>
          obtain ⟨t, b⟩ := x
          rw [e] at k hr
          obtain ⟨a, rfl, ea⟩ := hr
          refine iteT' rfl ?_
          refine ⟨_, rfl, a, _, _, _, rfl, rfl, SqT.of ea, rfl, rfl, ?_⟩
          have e2 : (!decide (V.int t = V.int 0)) = !decide (t = 0) := congrArg Bool.not (decide_eq_decide.mpr ⟨fun e => by injection e, fun e => by rw [e]⟩)
          rw [e2]
          exact k _ (s1.trans s2)
      · refine iteF' (decide_eq_false h) ?_
        rw [if_neg h] at k
        refine ⟨_, rfl, p, _, rfl, Or.inl (SqL.of ep), rfl, _, rfl, ?_⟩
        refine iteT' (dint_eq (by simp)) ?_
        refine ⟨_, rfl, l, rfl, hl, fun r H2 s2 hr => ?_⟩
        have k := k _ (s1.trans s2)
        rw [← not_non r H2 _ hr] at k
        exact k
    refine iteF' (dint_ne (by simp; omega)) ?_
    refine ⟨_, rfl, p, _, rfl, Or.inl (SqL.of ep), rfl, _, rfl, ?_⟩
    refine iteF' (dint_ne (by simp; omega)) ?_
    refine ⟨_, rfl, p, _, rfl, Or.inl (SqL.of ep), rfl, _, rfl, ?_⟩
    by_cases c3 : ws.length = 3
    case neg =>
      refine iteT' (by rw [dint_ne (by simp; omega)]; rfl) ?_
      rw [line_no c1 c3] at k
      exact k _ s1
    refine iteF' (by rw [dint_eq (by simp [c3])]; rfl) ?_
    obtain ⟨a, s, c, rfl⟩ := len3 c3
    have la : a.length ≤ 10000 := by have := lw a (by simp); rw [List.length_nil, Nat.zero_add] at this; omega
    have lc : c.length ≤ 10000 := by have := lw c (by simp); rw [List.length_nil, Nat.zero_add] at this; omega
    have k : ∀ H', Same H H' → Q (.bl (if (s = [43] ∨ s = [45]) ∧ c.getLast? = some 115 then (match lawNum a, lawNum c.dropLast with | some b, some t => !decide (b.1 = 0) && decide (0 < t.1) | _, _ => false) else false)) H' := k
    refine ⟨_, rfl, p, _, _, _, rfl, rfl, SqL.of ep, rfl, by show 2 ≤ sizeLine; decide, fun tp ntp => ?_⟩
    have s2 := same_new (o := .tup [.str "+", .str "-"]) ntp
    have ep := s2 _ _ ep
    refine ⟨tp, _, rfl, .inr (SqT.of upd_same), rfl, rfl, _, rfl, ?_⟩
    generalize upd H1 tp (.tup [.str "+", .str "-"]) = H2 at *
    have s2 := s1.trans s2
    show (if (!inV (.str (S s)) [.str "+", .str "-"]) = true then _ else _)
    rw [in_pm]
    by_cases hs : s = [43] ∨ s = [45]
    case neg =>
      refine iteT' (by rw [decide_eq_false hs]; rfl) ?_
      rw [if_neg fun z => hs z.1] at k
      exact k _ s2
    refine iteF' (by rw [decide_eq_true hs]; rfl) ?_
    refine ⟨_, rfl, p, _, _, _, rfl, rfl, SqL.of ep, rfl, _, rfl, _, rfl, _, rfl, by rw [len_S]; exact lt_line (by omega), rfl, _, rfl, ?_⟩
    have ld : decide (V.str (cutS (SX.S c) (some (-1)) none) = V.str "s") = decide (c.getLast? = some 115) := last_dec c
    rw [ld]
    by_cases h : c.getLast? = some 115
    case neg =>
      refine iteT' (by rw [decide_eq_false h]; rfl) ?_
      rw [if_neg fun z => h z.2] at k
      exact k _ s2
    refine iteF' (by rw [decide_eq_true h]; rfl) ?_
    rw [if_pos ⟨hs, h⟩] at k
    refine ⟨_, rfl, p, _, _, _, rfl, rfl, SqL.of ep, rfl, a, rfl, la, fun r H3 s3 hr => ?_⟩
    have ep := s3 _ _ ep
    refine ⟨_, rfl, p, _, _, _, rfl, rfl, SqL.of ep, rfl, _, rfl, _, rfl, _, rfl, by rw [len_S]; exact lt_line (by omega), ?_⟩
    rw [show cutS (SX.S c) none (some (-1)) = S c.dropLast from cut_init c]
    refine ⟨c.dropLast, rfl, by simp; omega, fun u H4 s4 hu => ?_⟩
    have sH := (s2.trans s3).trans s4
    refine ⟨_, _, rfl, ?_⟩
    refine stT (σ' := [some (.str (S l)), some (.ref p), some (u), some (r)]) rfl ?_
    refine ⟨_, rfl, _, rfl, ?_⟩
    rw [not_non r H3 _ hr]
    cases ea : lawNum a with
    | none =>
      rw [ea] at k
      exact iteF' rfl (k _ sH)
    | some x =>
    obtain ⟨t1, b1⟩ := x
    rw [ea] at hr k
    obtain ⟨ra, rfl, er⟩ := hr
    have er := s4 _ _ er
    refine iteT' rfl ?_
    refine ⟨_, rfl, _, rfl, ?_⟩
    rw [not_non u H4 _ hu]
    cases ec : lawNum c.dropLast with
    | none =>
      rw [ec] at k
      exact iteF' rfl (k _ sH)
    | some x =>
    obtain ⟨t2, b2⟩ := x
    rw [ec] at hu k
    obtain ⟨ua, rfl, eu⟩ := hu
    have k : ∀ H', Same H H' → Q (.bl (!decide (t1 = 0) && decide (0 < t2))) H' := k
    refine iteT' rfl ?_
    refine ⟨_, rfl, ra, _, _, _, rfl, rfl, SqT.of er, rfl, rfl, _, rfl, ?_⟩
    by_cases z : t1 = 0
    · refine iteF' (by rw [dint_eq z]; rfl) ?_
      rw [decide_eq_true z] at k
      exact k _ sH
    · refine iteT' (by rw [dint_ne z]; rfl) ?_
      rw [decide_eq_false z] at k
      exact ⟨_, rfl, ua, _, _, _, rfl, rfl, SqT.of eu, rfl, _, _, rfl, rfl, k _ sH⟩
def strOfL (l : List Nat) : List (List Nat) → Bool
  | [a, c] => if (l.head? = some 91 ∨ l.head? = some 40) ∧ (l.getLast? = some 93 ∨ l.getLast? = some 41) then (match lawNum a, lawNum c with
      | some p, some q => decide (0 < q.1 * p.2 - p.1 * q.2) || (decide (q.1 * p.2 - p.1 * q.2 = 0) && (decide (l.head? = some 91) && decide (l.getLast? = some 93)))
      | _, _ => false) else false
  | _ => false
theorem str_of (l : List Nat) : lawStr l = strOfL l (TL.spl [32] 0 [] (l.drop 1).dropLast) := by
  unfold lawStr strOfL
  rfl
theorem str_no {l : List Nat} {ws : List (List Nat)} (h1 : ws.length ≠ 2) : strOfL l ws = false := by
  match ws, h1 with
  | [], _ => rfl
  | [_], _ => rfl
  | [_, _], h => exact absurd rfl h
  | _ :: _ :: _ :: _, _ => rfl
theorem in_open (c : Nat) : decide (c ∈ (("[(" : Str).cps.toList)) = decide (c = 91 ∨ c = 40) := by
  have e : ("[(" : Str).cps.toList = [91, 40] := by decide +kernel
  rw [e]
  exact decide_eq_decide.mpr (by simp)
theorem in_close (c : Nat) : decide (c ∈ (("])" : Str).cps.toList)) = decide (c = 93 ∨ c = 41) := by
  have e : ("])" : Str).cps.toList = [93, 41] := by decide +kernel
  rw [e]
  exact decide_eq_decide.mpr (by simp)
theorem lawNum_bd {l : List Nat} {r : Int × Int} (h : lawNum l = some r) : r.1.natAbs < 2 ^ 100 ∧ r.2.natAbs < 2 ^ 100 := by
  obtain ⟨q, rfl, h1, h2⟩ := law_some h
  rw [law_numT h1 h2] at h
  cases h
  exact ⟨Nat.lt_of_lt_of_le h1 ten30, Nat.lt_of_lt_of_le (by simpa using h2) ten30⟩
theorem one_dec (c d : Nat) (s : Str) (h : s = S [d]) : decide (V.str (⟨#[c]⟩ : Str) = V.str s) = decide (c = d) := by
  rw [h]
  refine decide_eq_decide.mpr ?_
  have := S_eq (a := [c]) (b := [d])
  constructor
  · intro z
    have := this.mp z
    simpa using this
  · intro z
    rw [z]
def spIsStr : Sp := fun vs H Q _ => ∃ l : List Nat, vs = [.str (S l)] ∧ l.length ≤ 10000 ∧ ∀ H', Same H H' → Q (.bl (lawStr l)) H'
theorem ok_law_is_stretch (T : Txt K mg A) : FnOk P w K mg base CX0 3 A.f_law_is_stretch A.d_law_is_stretch ["text"] spIsStr := by
  refine T.F_law_is_stretch.ok sc_law_is_stretch (fun vs H Q E h => ?_) (fun cdv B outer s H vs Q E hr h => ?_)
  · obtain ⟨l, rfl, _⟩ := h
    rfl
  · obtain ⟨l, rfl, hl, k⟩ := h
    have hr2 : Room 2 _ := hr.mono (by decide)
    refine ⟨_, (pss_cons (ps_set (i := 1) sc_law_is_stretch.nd rfl (Or.inl rfl) (pe_split (pe_slice sl_str (pv 0) (po_some pe_int) (po_some (pe_un un_neg pe_int))) pe_str))
      (pss_cons (ps_if (PW.pt (pw_or (pt_cmpR op_lt (pe_callB call_len_str (by rfl) T.z_len (by decide +kernel) (pa_cons (pv 0) pa_nil)) pe_int (nomark _)) (pw_or (pt_cmpR op_notIn_sign (pe_ix ix_str (pv 0) pe_int (fun _ _ => rfl)) pe_str (by rfl)) (pw_or (pt_cmpR op_notIn_sign (pe_ix ix_str (pv 0) (pe_un un_neg pe_int) (fun _ _ => rfl)) pe_str (by rfl)) (pw_or1 (pt_cmpR op_ne (pe_callB call_len_seq (by rfl) T.z_len (by decide +kernel) (pa_cons (pv 1) pa_nil)) pe_int (nomark _))))))) (pss_one (ps_ret pe_bl)) pss_nil)
      (pss_cons (ps_par (i := 2) (j := 3) rfl sc_law_is_stretch.nd rfl rfl (by decide) rfl rfl (pa_cons (pe_call (ok_law_number_of T) hr2 rfl T.g_law_number_of T.F_law_number_of.kp T.b_law_number_of .nil pass0 (pa_cons (pe_ix ix_list (pv 1) pe_int (fun _ _ => rfl)) pa_nil)) (pa_cons (pe_call (ok_law_number_of T) hr2 rfl T.g_law_number_of T.F_law_number_of.kp T.b_law_number_of .nil pass0 (pa_cons (pe_ix ix_list (pv 1) pe_int (fun _ _ => rfl)) pa_nil)) pa_nil)) (by rfl))
      (pss_cons (ps_if (PW.pt (pw_or (pt_cmp (pc_isN (pv 2))) (pw_or1 (pt_cmp (pc_isN (pv 3)))))) (pss_one (ps_ret pe_bl)) pss_nil)
      (pss_cons (ps_set (i := 4) sc_law_is_stretch.nd rfl (Or.inl rfl) (pe_op op_sub (pe_op op_mulW (pe_ix ix_tup (pv 3) pe_int (fun _ _ => rfl)) (pe_ix ix_tup (pv 2) pe_int (fun _ _ => rfl))) (pe_op op_mulW (pe_ix ix_tup (pv 2) pe_int (fun _ _ => rfl)) (pe_ix ix_tup (pv 3) pe_int (fun _ _ => rfl)))))
      (pss_one (ps_ret (pe_or (pe_cmpR op_gt (pv 4) pe_int (nomark _)) (pe_one (pe_and (pe_cmpR op_eq (pv 4) pe_int (nomark _)) (pe_and (pe_cmpR op_eq (pe_ix ix_str (pv 0) pe_int (fun _ _ => rfl)) pe_str (nomark _)) (pe_one (pe_cmpR op_eq (pe_ix ix_str (pv 0) (pe_un un_neg pe_int) (fun _ _ => rfl)) pe_str (nomark _)))))))))))))), ?_⟩
    refine ⟨_, rfl, _, rfl, _, rfl, _, rfl, _, rfl, by rw [len_S]; exact lt_line hl, ?_⟩
    rw [cut_mid]
    have hl2 : (l.drop 1).dropLast.length ≤ 10000 := by simp; omega
    refine ⟨⟨_, rfl⟩, _, _, rfl, rfl, by decide +kernel, by rw [len_S, sizeLine_eq]; omega, fun p np => ?_⟩
    rw [e32, SX.split_S (by simp) (by decide)]
    have s1 := same_new (o := .lst (((TL.spl [32] 0 [] (l.drop 1).dropLast).map SX.S).map V.str)) np
    have ep : (upd H p (.lst (((TL.spl [32] 0 [] (l.drop 1).dropLast).map SX.S).map V.str))) p = some (.lst (((TL.spl [32] 0 [] (l.drop 1).dropLast).map SX.S).map V.str)) := upd_same
    have lw := spl_len [32] (l.drop 1).dropLast 0 []
    rw [str_of] at k
    have hne : TL.spl [32] 0 [] (l.drop 1).dropLast ≠ [[]] → 2 ≤ l.length := fun z => by
      apply Classical.byContradiction
      intro q
      have : (l.drop 1).dropLast = [] := List.eq_nil_of_length_eq_zero (by simp; omega)
      rw [this] at z
      exact z rfl
    generalize TL.spl [32] 0 [] (l.drop 1).dropLast = ws at *
    generalize upd H p (.lst ((ws.map SX.S).map V.str)) = H1 at *
    refine stT (σ' := [some (.str (S l)), some (.ref p), none, none, none]) rfl ?_
    refine ⟨_, rfl, _, rfl, by rw [len_S]; exact lt_line hl, _, _, rfl, rfl, _, rfl, ?_⟩
    rw [len_S]
    by_cases c0 : l.length < 2
    · refine iteT' (decide_eq_true (by omega)) ?_
      have : ws = [[]] := Classical.byContradiction fun z => by have := hne z; omega
      rw [this] at k
      exact k _ s1
    refine iteF' (decide_eq_false (by omega)) ?_
    obtain ⟨x0, l0, rfl⟩ := List.exists_cons_of_ne_nil (show l ≠ [] by intro e; rw [e] at c0; simp at c0)
    obtain ⟨xz, hz⟩ : ∃ cz, (x0 :: l0).getLast? = some cz := ⟨_, List.getLast?_eq_some_getLast (by simp)⟩
    refine ⟨_, rfl, _, _, x0, rfl, rfl, by rw [len_S]; exact lt_line hl, atI_zero _ _, _, _, rfl, rfl, _, rfl, ?_⟩
    rw [in_open]
    by_cases h1 : x0 = 91 ∨ x0 = 40
    case neg =>
      refine iteT' (by rw [decide_eq_false h1]; rfl) ?_
      have e : strOfL (x0 :: l0) ws = false := by
        by_cases w2 : ws.length = 2
        · obtain ⟨a, c, rfl⟩ := len2 w2
          show (if _ then _ else false) = false
          rw [if_neg]
          intro z
          simp at z
          exact h1 z.1
        · exact str_no w2
      rw [e] at k
      exact k _ s1
    refine iteF' (by rw [decide_eq_true h1]; rfl) ?_
    refine ⟨_, rfl, _, rfl, _, _, xz, rfl, rfl, by rw [len_S]; exact lt_line hl, atI_end hz, _, _, rfl, rfl, _, rfl, ?_⟩
    rw [in_close]
    by_cases h2 : xz = 93 ∨ xz = 41
    case neg =>
      refine iteT' (by rw [decide_eq_false h2]; rfl) ?_
      have e : strOfL (x0 :: l0) ws = false := by
        by_cases w2 : ws.length = 2
        · obtain ⟨a, c, rfl⟩ := len2 w2
          show (if _ then _ else false) = false
          rw [if_neg]
          intro z
          rw [hz] at z
          simp at z
          exact h2 z.2
        · exact str_no w2
      rw [e] at k
      exact k _ s1
    refine iteF' (by rw [decide_eq_true h2]; rfl) ?_
    refine ⟨_, rfl, p, _, rfl, Or.inl (SqL.of ep), rfl, _, rfl, ?_⟩
    by_cases w2 : ws.length = 2
    case neg =>
      refine iteT' (by rw [dint_ne (by simp; omega)]; rfl) ?_
      rw [str_no w2] at k
      exact k _ s1
    refine iteF' (by rw [dint_eq (by simp [w2])]; rfl) ?_
    obtain ⟨a, c, rfl⟩ := len2 w2
    have la : a.length ≤ 10000 := by have := lw a (by simp); rw [List.length_nil, Nat.zero_add] at this; omega
    have lc : c.length ≤ 10000 := by have := lw c (by simp); rw [List.length_nil, Nat.zero_add] at this; omega
    have k : ∀ H', Same H H' → Q (.bl (match lawNum a, lawNum c with
      | some p, some q => decide (0 < q.1 * p.2 - p.1 * q.2) || (decide (q.1 * p.2 - p.1 * q.2 = 0) && (decide (x0 = 91) && decide (xz = 93)))
      | _, _ => false)) H' := fun H' s => by
      have k := k H' s
      have e : strOfL (x0 :: l0) [a, c] = (match lawNum a, lawNum c with
        | some p, some q => decide (0 < q.1 * p.2 - p.1 * q.2) || (decide (q.1 * p.2 - p.1 * q.2 = 0) && (decide (x0 = 91) && decide (xz = 93)))
        | _, _ => false) := by
        show (if ((x0 :: l0).head? = some 91 ∨ (x0 :: l0).head? = some 40) ∧ ((x0 :: l0).getLast? = some 93 ∨ (x0 :: l0).getLast? = some 41) then (match lawNum a, lawNum c with
          | some p, some q => decide (0 < q.1 * p.2 - p.1 * q.2) || (decide (q.1 * p.2 - p.1 * q.2 = 0) && (decide ((x0 :: l0).head? = some 91) && decide ((x0 :: l0).getLast? = some 93)))
          | _, _ => false) else false) = _
        rw [if_pos (by rw [hz]; simp; exact ⟨h1, h2⟩), hz]
        simp only [List.head?_cons, Option.some.injEq]
      rw [e] at k
      exact k
    refine ⟨_, rfl, p, _, _, _, rfl, rfl, SqL.of ep, rfl, a, rfl, la, fun r H3 s3 hr => ?_⟩
    have ep := s3 _ _ ep
    refine ⟨_, rfl, p, _, _, _, rfl, rfl, SqL.of ep, rfl, c, rfl, lc, fun u H4 s4 hu => ?_⟩
    have sH := (s1.trans s3).trans s4
    refine ⟨_, _, rfl, ?_⟩
    refine stT (σ' := [some (.str (S (x0 :: l0))), some (.ref p), some (r), some (u), none]) rfl ?_
    refine ⟨_, rfl, _, rfl, ?_⟩
    cases ea : lawNum a with
    | none =>
      rw [ea] at k hr
      cases (show r = V.non from hr)
      exact iteT' (by simp) (k _ sH)
    | some x =>
    obtain ⟨t1, b1⟩ := x
    have bd1 := lawNum_bd ea
    rw [ea] at hr k
    obtain ⟨ra, rfl, er⟩ := hr
    have er := s4 _ _ er
    refine iteF' (by simp) ?_
    refine ⟨_, rfl, _, rfl, ?_⟩
    cases ec : lawNum c with
    | none =>
      rw [ec] at k hu
      cases (show u = V.non from hu)
      exact iteT' (by simp) (k _ sH)
    | some x =>
    obtain ⟨t2, b2⟩ := x
    have bd2 := lawNum_bd ec
    rw [ec] at hu k
    obtain ⟨ua, rfl, eu⟩ := hu
    refine iteF' (by simp) ?_
    have k : ∀ H', Same H H' → Q (.bl (decide (0 < t2 * b1 - t1 * b2) || (decide (t2 * b1 - t1 * b2 = 0) && (decide (x0 = 91) && decide (xz = 93))))) H' := k
    refine ⟨_, rfl, ua, _, _, _, rfl, rfl, SqT.of eu, rfl, _, rfl, ra, _, _, _, rfl, rfl, SqT.of er, rfl, _, _, rfl, rfl, bdw bd2.1 bd1.2, _, rfl, ra, _, _, _, rfl, rfl, SqT.of er, rfl, _, rfl, ua, _, _, _, rfl, rfl, SqT.of eu, rfl, _, _, rfl, rfl, bdw bd1.1 bd2.2, _, _, rfl, rfl, ?_⟩
    refine stT (σ' := [some (.str (S (x0 :: l0))), some (.ref p), some (.ref ra), some (.ref ua), some (.int (t2 * b1 - t1 * b2))]) rfl ?_
    generalize t2 * b1 - t1 * b2 = g at *
    refine ⟨_, rfl, _, _, rfl, rfl, _, rfl, ?_⟩
    by_cases g0 : 0 < g
    · refine iteT' (decide_eq_true (by omega)) ?_
      rw [decide_eq_true g0] at k
      exact k _ sH
    refine iteF' (decide_eq_false (by omega)) ?_
    rw [decide_eq_false g0, Bool.false_or] at k
    refine ⟨_, rfl, rfl, _, rfl, ?_⟩
    by_cases g1 : g = 0
    case neg =>
      refine iteF' (dint_ne g1) ?_
      rw [decide_eq_false g1] at k
      exact k _ sH
    refine iteT' (dint_eq g1) ?_
    rw [decide_eq_true g1, Bool.true_and] at k
    refine ⟨_, rfl, _, _, x0, rfl, rfl, by rw [len_S]; exact lt_line hl, atI_zero _ _, rfl, _, rfl, ?_⟩
    rw [one_dec x0 91 "[" e91]
    by_cases g2 : x0 = 91
    case neg =>
      refine iteF' (decide_eq_false g2) ?_
      rw [decide_eq_false g2] at k
      exact k _ sH
    refine iteT' (decide_eq_true g2) ?_
    rw [decide_eq_true g2, Bool.true_and] at k
    refine ⟨_, rfl, _, rfl, _, _, xz, rfl, rfl, by rw [len_S]; exact lt_line hl, atI_end hz, rfl, ?_⟩
    rw [one_dec xz 93 "]" e93]
    exact k _ sH
/-- whether a value is so written -/
def dueOf (way : Int) (y : V) : Bool :=
  match y with
  | .str z => if way = 0 then (lawNum z.cps.toList).isSome else if way = 1 then lawLine z.cps.toList else lawStr z.cps.toList
  | _ => false
def spDue (K : PySem.W.Frag) : Sp := fun vs H Q _ => ∃ (way : Int) (y : V), vs = [.int way, y] ∧ ((∃ l : List Nat, y = .str (S l) ∧ l.length ≤ 10000) ∨ NotStr K H y) ∧ ∀ H', Same H H' → Q (.bl (dueOf way y)) H'
theorem due_no {K : PySem.W.Frag} {H : Hp} {y : V} {way : Int} (T : PySem.W.kitOne K (.type "str") (.type "str") = some true) (h : NotStr K H y) : dueOf way y = false := by
  obtain ⟨ty, t1, t2⟩ := h
  cases y with
  | str z =>
    cases t1 with
    | base h =>
      cases h
      rw [T] at t2
      cases t2
  | _ => rfl
theorem ok_law_due (T : Txt K mg A) : FnOk P w K mg base CX0 4 A.f_law_due A.d_law_due ["way", "value"] (spDue K) := by
  refine T.F_law_due.ok sc_law_due (fun vs H Q E h => ?_) (fun cdv B outer s H vs Q E hr h => ?_)
  · obtain ⟨way, y, rfl, _⟩ := h
    rfl
  · obtain ⟨way, y, rfl, h, k⟩ := h
    have hr2 : Room 2 _ := hr.mono (by decide)
    have hr3 : Room 3 _ := hr.mono (by decide)
    refine ⟨_, (pss_cons (ps_if (pt_not (pt_val (pe_callB call_isi (by rfl) T.z_isinstance (by decide +kernel) (pa_cons (pv 1) (pa_cons (pe_bltn (v := .ty "str") (by rfl) T.z_str (by decide +kernel) rfl) pa_nil))))) (pss_one (ps_ret pe_bl)) pss_nil)
      (pss_cons (ps_if (pt_cmpR op_eq (pv 0) pe_int (nomark _)) (pss_one (ps_ret (pe_cmp (pc_notN (pe_call (ok_law_number_of T) hr2 rfl T.g_law_number_of T.F_law_number_of.kp T.b_law_number_of .nil pass0 (pa_cons (pv 1) pa_nil)))))) pss_nil)
      (pss_one (ps_ret (pe_ifExp (pt_cmpR op_eq (pv 0) pe_int (nomark _)) (pe_call (ok_law_is_line T) hr3 rfl T.g_law_is_line T.F_law_is_line.kp T.b_law_is_line .nil pass0 (pa_cons (pv 1) pa_nil)) (pe_call (ok_law_is_stretch T) hr3 rfl T.g_law_is_stretch T.F_law_is_stretch.kp T.b_law_is_stretch .nil pass0 (pa_cons (pv 1) pa_nil))))))), ?_⟩
    rcases h with ⟨l, rfl, hl⟩ | hn
    · refine ⟨_, rfl, _, _, _, _, true, rfl, .ty _, .base (.str _), T.kit_strstr, true, rfl, ?_⟩
      refine iteF' rfl ?_
      have k : ∀ H', Same H H' → Q (.bl (if way = 0 then (lawNum l).isSome else if way = 1 then lawLine l else lawStr l)) H' := k
      refine ⟨_, rfl, rfl, _, rfl, ?_⟩
      by_cases w0 : way = 0
      · refine iteT' (dint_eq w0) ?_
        rw [if_pos w0] at k
        refine ⟨_, rfl, l, rfl, hl, fun r H2 s2 hr => ?_⟩
        have k := k _ s2
        rw [← not_non r H2 _ hr] at k
        exact k
      refine iteF' (dint_ne w0) ?_
      rw [if_neg w0] at k
      refine ⟨_, rfl, rfl, _, rfl, ?_⟩
      by_cases w1 : way = 1
      · refine iteT' (dint_eq w1) ?_
        rw [if_pos w1] at k
        exact ⟨_, rfl, l, rfl, hl, k⟩
      refine iteF' (dint_ne w1) ?_
      rw [if_neg w1] at k
      exact ⟨_, rfl, l, rfl, hl, k⟩
    · have k := k H (Same.refl _)
      rw [due_no T.kit_strstr hn] at k
      obtain ⟨ty, t1, t2⟩ := hn
      refine ⟨_, rfl, _, _, _, _, false, rfl, .ty _, t1, t2, false, rfl, ?_⟩
      exact iteT' rfl k
end
/-! ### _law_read, _law_is_right -/
theorem readLine_some {l : List Nat} {b t : Rat} (h : readLine l = some (b, t)) : l = showLine b t := by
  unfold readLine at h
  split at h
  · rename_i b' t' _
    split at h
    · rename_i hs
      cases h
      exact hs.symm
    · cases h
  · cases h
theorem readStr_some {l : List Nat} {p q : Rat} {b1 b2 : Bool} (h : readStr l = some (p, q, b1, b2)) : l = showStr p q b1 b2 := by
  have hj := join_spl (l.drop 1).dropLast []
  unfold readStr at h
  split at h
  · rename_i a c hs
    rw [hs] at hj
    have hm : a ++ ([32] ++ c) = (l.drop 1).dropLast := hj
    split at h
    · rename_i x1 x2 u v e1 e2 e3 e4
      split at h
      · cases h
        have ha := (read_some e3).1
        have hc := (read_some e4).1
        cases l with
        | nil => cases e1
        | cons c0 r =>
          have hr : r ≠ [] := fun z => by
            rw [z] at hm
            simp at hm
          have e5 : (c0 :: r).getLast? = r.getLast? := by
            obtain ⟨y, z, rfl⟩ := List.exists_cons_of_ne_nil hr
            rfl
          rw [e5] at e2
          obtain ⟨cz, hz⟩ : ∃ cz, r.getLast? = some cz := ⟨_, List.getLast?_eq_some_getLast hr⟩
          have hl := last_split hz
          have hm2 : a ++ ([32] ++ c) = r.dropLast := hm
          rw [← hm2] at hl
          have f1 : c0 = if b1 then 91 else 40 := by
            have e1 : (if c0 = 91 then some true else if c0 = 40 then some false else none) = some b1 := e1
            by_cases k1 : c0 = 91
            · rw [if_pos k1] at e1
              cases e1
              exact k1
            · rw [if_neg k1] at e1
              by_cases k2 : c0 = 40
              · rw [if_pos k2] at e1
                cases e1
                exact k2
              · rw [if_neg k2] at e1
                cases e1
          have f2 : cz = if b2 then 93 else 41 := by
            rw [hz] at e2
            have e2 : (if cz = 93 then some true else if cz = 41 then some false else none) = some b2 := e2
            by_cases k1 : cz = 93
            · rw [if_pos k1] at e2
              cases e2
              exact k1
            · rw [if_neg k1] at e2
              by_cases k2 : cz = 41
              · rw [if_pos k2] at e2
                cases e2
                exact k2
              · rw [if_neg k2] at e2
                cases e2
          unfold showStr
          rw [← f1, ← f2, ← ha, ← hc, ← hl]
          simp
      · cases h
    · cases h
  · cases h
/-- what reading gives -/
def Got (A : Ad) (H : Hp) (way : Int) (r y : V) : Prop :=
  (way = 0 ∧ ∃ a q, r = .ref a ∧ Num A.c_Number H a q ∧ WM.Bd 110 q ∧ y = .str (S (numT q))) ∨
  (way = 1 ∧ ∃ a b t, r = .ref a ∧ Lin A H a b t ∧ WM.Bd 120 b ∧ WM.Bd 120 t ∧ y = .str (S (showLine b t))) ∨
  (way = 2 ∧ ∃ a p q b1 b2, r = .ref a ∧ Strh A H a p q b1 b2 ∧ WM.Bd 120 p ∧ WM.Bd 120 q ∧ y = .str (S (showStr p q b1 b2)))
theorem some_num (l : List Nat) : (lawNum l).isSome = (readNum l).isSome := by
  rw [lawNum_eq]
  cases readNum l <;> rfl
section
variable {P : Program} {w : World} {K : PySem.W.Frag} {mg : Str → Option Value} {base : Heap} {A : Ad}
def spLawRead (K : PySem.W.Frag) (A : Ad) : Sp := fun vs H Q _ => ∃ (way : Int) (y : V), vs = [.int way, y] ∧ (way = 0 ∨ way = 1 ∨ way = 2) ∧ ((∃ l : List Nat, y = .str (S l) ∧ l.length ≤ 10000) ∨ NotStr K H y) ∧
  ∀ r H', Same H H' → (dueOf way y = true → Got A H' way r y) → (dueOf way y = false → ∃ e dd, r = .ref e ∧ H' e = some (Cau (.ref A.c_BadText) (some dd) e) ∧ BadAt dd H' y) → Q r H'
theorem ok_law_read (TW : TxtW w K mg A) : FnOk PP w K mg base CX0 11 A.f_law_read A.d_law_read ["way", "value"] (spLawRead K A) := by
  have T := TW.t
  refine T.F_law_read.ok sc_law_read (fun vs H Q E h => ?_) (fun cdv B outer s H vs Q E hr h => ?_)
  · obtain ⟨way, y, rfl, _⟩ := h
    rfl
  · obtain ⟨way, y, rfl, hw, hy, k⟩ := h
    have hr10 : Room 10 _ := hr.mono (by decide)
    refine ⟨_, (pss_cons (ps_try_keep (i := 3) rfl rfl rfl sc_law_read.nd rfl rfl ⟨rfl, by decide, .inl T.g_SpeedError⟩ takes0
        (fun W pn xe tk _ => pss_one (ps_set (i := 2) sc_law_read.nd rfl (Or.inl rfl) (pe_ifExp (pt_cmpR op_eq (pv 0) pe_int (nomark _)) (pe_callS (ok_read_numberX TW) hr10 rfl T.g_read_number T.F_read_number.kp T.b_read_number (fun σ => passAt tk σ) (pa_cons (pv 1) pa_nil)) (pe_ifExp (pt_cmpR op_eq (pv 0) pe_int (nomark _)) (pe_callS (ok_read_lineX TW) hr10 rfl T.g_read_line T.F_read_line.kp T.b_read_line (fun σ => passAt tk σ) (pa_cons (pv 1) pa_nil)) (pe_callS (ok_read_stretchX TW) hr10 rfl T.g_read_stretch T.F_read_stretch.kp T.b_read_stretch (fun σ => passAt tk σ) (pa_cons (pv 1) pa_nil))))))
        (fun a oe pn => pss_one (ps_set (i := 2) sc_law_read.nd rfl (Or.inl rfl) (pv 3))))
      (pss_one (ps_ret (pv 2)))), ?_⟩
    refine ⟨_, rfl, rfl, _, rfl, ?_⟩
    by_cases w0 : way = 0
    · refine iteT' (dint_eq w0) ?_
      rcases hy with ⟨l, rfl, hl⟩ | hn
      · have dd0 : dueOf way (.str (S l)) = (readNum l).isSome := by
          rw [← some_num]
          show (if way = 0 then (lawNum l).isSome else if way = 1 then lawLine l else lawStr l) = _
          rw [if_pos w0]
        refine ⟨_, rfl, _, rfl, .inl ⟨l, rfl, hl, fun q hq a H1 s1 hn => ?_, fun hq dd H1 s1 hb => ⟨true, T.em_BadText_SpeedError, fun _ e ne => ?_, fun z => nomatch z⟩⟩⟩
        · dsimp only [gName]
          refine ⟨_, rfl, k (.ref a) _ s1 (fun _ => .inl ⟨w0, a, q, rfl, hn.1, hn.2, by rw [← (read_some hq).1]⟩) fun z => ?_⟩
          rw [dd0, hq] at z
          cases z
        · refine ⟨_, rfl, ?_⟩
          dsimp only [gName]
          refine ⟨_, rfl, k (.ref e) _ (s1.trans (same_new ne)) (fun z => ?_) fun _ => ⟨e, dd, rfl, upd_same, same_new ne _ _ hb⟩⟩
          rw [dd0, hq] at z
          cases z
      · refine ⟨_, rfl, _, rfl, .inr ⟨hn, fun dd H1 s1 hb => ⟨true, T.em_BadText_SpeedError, fun _ e ne => ?_, fun z => nomatch z⟩⟩⟩
        refine ⟨_, rfl, ?_⟩
        dsimp only [gName]
        refine ⟨_, rfl, k (.ref e) _ (s1.trans (same_new ne)) (fun z => ?_) fun _ => ⟨e, dd, rfl, upd_same, same_new ne _ _ hb⟩⟩
        rw [due_no T.kit_strstr hn] at z
        cases z
    refine iteF' (dint_ne w0) ?_
    refine ⟨_, rfl, rfl, _, rfl, ?_⟩
    by_cases w1 : way = 1
    · refine iteT' (dint_eq w1) ?_
      rcases hy with ⟨l, rfl, hl⟩ | hn
      · have dd0 : dueOf way (.str (S l)) = (readLine l).isSome := by
          rw [← lawLine_eq]
          show (if way = 0 then (lawNum l).isSome else if way = 1 then lawLine l else lawStr l) = _
          rw [if_neg w0, if_pos w1]
        refine ⟨_, rfl, _, rfl, .inl ⟨l, rfl, hl, fun b t hq a H1 s1 hn => ?_, fun hq dd H1 s1 hb => ⟨true, T.em_BadText_SpeedError, fun _ e ne => ?_, fun z => nomatch z⟩⟩⟩
        · dsimp only [gName]
          refine ⟨_, rfl, k (.ref a) _ s1 (fun _ => .inr (.inl ⟨w1, a, b, t, rfl, hn.1, hn.2.1, hn.2.2, by rw [← readLine_some hq]⟩)) fun z => ?_⟩
          rw [dd0, hq] at z
          cases z
        · refine ⟨_, rfl, ?_⟩
          dsimp only [gName]
          refine ⟨_, rfl, k (.ref e) _ (s1.trans (same_new ne)) (fun z => ?_) fun _ => ⟨e, dd, rfl, upd_same, same_new ne _ _ hb⟩⟩
          rw [dd0, hq] at z
          cases z
      · refine ⟨_, rfl, _, rfl, .inr ⟨hn, fun dd H1 s1 hb => ⟨true, T.em_BadText_SpeedError, fun _ e ne => ?_, fun z => nomatch z⟩⟩⟩
        refine ⟨_, rfl, ?_⟩
        dsimp only [gName]
        refine ⟨_, rfl, k (.ref e) _ (s1.trans (same_new ne)) (fun z => ?_) fun _ => ⟨e, dd, rfl, upd_same, same_new ne _ _ hb⟩⟩
        rw [due_no T.kit_strstr hn] at z
        cases z
    · refine iteF' (dint_ne w1) ?_
      rcases hy with ⟨l, rfl, hl⟩ | hn
      · have dd0 : dueOf way (.str (S l)) = (readStr l).isSome := by
          rw [← lawStr_eq]
          show (if way = 0 then (lawNum l).isSome else if way = 1 then lawLine l else lawStr l) = _
          rw [if_neg w0, if_neg w1]
        refine ⟨_, rfl, _, rfl, .inl ⟨l, rfl, hl, fun p q b1 b2 hq a H1 s1 hn => ?_, fun hq dd H1 s1 hb => ⟨true, T.em_BadText_SpeedError, fun _ e ne => ?_, fun z => nomatch z⟩⟩⟩
        · dsimp only [gName]
          refine ⟨_, rfl, k (.ref a) _ s1 (fun _ => .inr (.inr ⟨by omega, a, p, q, b1, b2, rfl, hn.1, hn.2.1, hn.2.2, by rw [← readStr_some hq]⟩)) fun z => ?_⟩
          rw [dd0, hq] at z
          cases z
        · refine ⟨_, rfl, ?_⟩
          dsimp only [gName]
          refine ⟨_, rfl, k (.ref e) _ (s1.trans (same_new ne)) (fun z => ?_) fun _ => ⟨e, dd, rfl, upd_same, same_new ne _ _ hb⟩⟩
          rw [dd0, hq] at z
          cases z
      · refine ⟨_, rfl, _, rfl, .inr ⟨hn, fun dd H1 s1 hb => ⟨true, T.em_BadText_SpeedError, fun _ e ne => ?_, fun z => nomatch z⟩⟩⟩
        refine ⟨_, rfl, ?_⟩
        dsimp only [gName]
        refine ⟨_, rfl, k (.ref e) _ (s1.trans (same_new ne)) (fun z => ?_) fun _ => ⟨e, dd, rfl, upd_same, same_new ne _ _ hb⟩⟩
        rw [due_no T.kit_strstr hn] at z
        cases z
/-- == of a value with itself -/
def SelfEq (K : PySem.W.Frag) (H : Hp) (x : V) : Prop := scal x x = true ∨ (∃ a xs, x = .ref a ∧ SqT K H a xs ∧ ∀ v ∈ xs, Sm v) ∨ (∃ a xs, x = .ref a ∧ SqL K H a xs ∧ ∀ v ∈ xs, flatB v = true) ∨ ∃ a, x = .ref a ∧ H a = some (.dK [])
def rSelf (K : PySem.W.Frag) : R2 := fun x y H Q => x = y ∧ SelfEq K H x ∧ Q (.bl true) H
theorem paired_self {E : V → V → Prop} : ∀ {xs : List V}, (∀ v ∈ xs, E v v) → Paired E xs xs
  | [], _ => .nil
  | x :: xs, h => .cons (h x List.mem_cons_self) (paired_self fun v hv => h v (List.mem_cons_of_mem _ hv))
theorem op_self {X : Cx} {K : PySem.W.Frag} (hu : X.A.units + 64 < cLine) (h : X.K = K := by rfl) : OpR X (compareOp .Eq) (rSelf K) := by
  subst h
  intro pins s σ H x y v u Q I rx ry hh
  obtain ⟨rfl, hs, q⟩ := hh
  rcases hs with f | ⟨a, xs, rfl, hq, hm⟩ | ⟨a, xs, rfl, hq, hm⟩ | ⟨a, rfl, ha⟩
  · exact op_eq pins s σ H _ _ v u Q I rx ry ⟨f, by rw [decide_eq_true rfl]; exact q⟩
  · exact op_eqT hu pins s σ H _ _ v u Q I rx ry ⟨a, a, xs, rfl, rfl, hq, hq, hm, q⟩
  · exact op_eqV hu pins s σ H _ _ v u Q I rx ry ⟨1, by decide, .inl ⟨a, a, xs, xs, rfl, rfl, hq, hq, paired_self fun v hv => .inl ⟨rfl, hm v hv⟩⟩, q⟩
  · exact op_eq_dict (by omega) pins s σ H (.ref a) (.ref a) v u Q I rx ry ⟨a, a, [], rfl, rfl, ha, ha, by simp, by simp, q⟩
def ValOk (K : PySem.W.Frag) (H : Hp) (y : V) : Prop := ∀ Hh, Same H Hh → ((∃ l : List Nat, y = .str (S l) ∧ l.length ≤ 10000) ∨ NotStr K Hh y) ∧ (∃ ty b, TyX K Hh y ty ∧ PySem.W.kitOne K ty (.type "bool") = some b) ∧ SelfEq K Hh y
def spIsRight (K : PySem.W.Frag) : Sp := fun vs H Q _ => ∃ (way : Int) (y : V), vs = [.int way, y] ∧ (way = 0 ∨ way = 1 ∨ way = 2) ∧ ValOk K H y ∧ ∀ H', Same H H' → Q (.bl true) H'
theorem ok_law_is_right (TW : TxtW w K mg A) : FnOk PP w K mg base CX0 12 A.f_law_is_right A.d_law_is_right ["way", "value"] (spIsRight K) := by
  have T := TW.t
  refine T.F_law_is_right.ok sc_law_is_right (fun vs H Q E h => ?_) (fun cdv B outer s H vs Q E hr h => ?_)
  · obtain ⟨way, y, rfl, _⟩ := h
    rfl
  · obtain ⟨way, y, rfl, hw, hv, k⟩ := h
    have hr3 : Room 3 _ := hr.mono (by decide)
    have hr5 : Room 5 _ := hr.mono (by decide)
    have hr6 : Room 6 _ := hr.mono (by decide)
    have hr4 : Room 4 _ := hr.mono (by decide)
    have hr11 : Room 11 _ := hr.mono (by decide)
    refine ⟨_, (pss_cons (ps_set (i := 2) sc_law_is_right.nd rfl (Or.inl rfl) (pe_call (ok_law_read TW) hr11 rfl T.g_law_read T.F_law_read.kp T.b_law_read .nil pass0 (pa_cons (pv 0) (pa_cons (pv 1) pa_nil))))
      (pss_cons (ps_if (pt_not (pt_val (pe_call (ok_law_due T) hr4 rfl T.g_law_due T.F_law_due.kp T.b_law_due .nil pass0 (pa_cons (pv 0) (pa_cons (pv 1) pa_nil))))) (pss_cons (ps_if (PW.pt (pw_or (pt_not (pt_val (pe_callB call_isC (by rfl) T.z_isinstance (by decide +kernel) (pa_cons (pv 2) (pa_cons (pe_glob (v := .ref A.c_BadText) (by rfl) T.g_BadText rfl) pa_nil))))) (pw_or1 (pt_cmpR op_ne (pe_callB call_isi (by rfl) T.z_isinstance (by decide +kernel) (pa_cons (pe_cauf (pv 2)) (pa_cons (pe_bltn (v := .ty "bool") (by rfl) T.z_bool (by decide +kernel) rfl) pa_nil))) (pe_callB call_isi (by rfl) T.z_isinstance (by decide +kernel) (pa_cons (pv 1) (pa_cons (pe_bltn (v := .ty "bool") (by rfl) T.z_bool (by decide +kernel) rfl) pa_nil))) (nomark _))))) (pss_one (ps_ret pe_bl)) pss_nil)
      (pss_one (ps_ret (pe_cmpR (op_self (K := K) hr.units) (pe_cauf (pv 2)) (pv 1) (nomark _))))) pss_nil)
      (pss_cons (ps_if (pt_cmpR op_eq (pv 0) pe_int (nomark _)) (pss_one (ps_ret (pe_and (pe_callB call_isi (by rfl) T.z_isinstance (by decide +kernel) (pa_cons (pv 2) (pa_cons (pe_glob (v := .ref A.c_Number) (by rfl) T.g_Number rfl) pa_nil))) (pe_one (pe_cmpR op_eq (pe_call (ok_show_number T) hr3 rfl T.g_show_number T.F_show_number.kp T.b_show_number .nil pass0 (pa_cons (pv 2) pa_nil)) (pv 1) (nomark _)))))) pss_nil)
      (pss_cons (ps_if (pt_cmpR op_eq (pv 0) pe_int (nomark _)) (pss_one (ps_ret (pe_and (pe_callB call_isi (by rfl) T.z_isinstance (by decide +kernel) (pa_cons (pv 2) (pa_cons (pe_glob (v := .ref A.c_Line) (by rfl) T.g_Line rfl) pa_nil))) (pe_one (pe_cmpR op_eq (pe_call (ok_show_line T) hr6 rfl T.g_show_line T.F_show_line.kp T.b_show_line .nil pass0 (pa_cons (pv 2) pa_nil)) (pv 1) (nomark _)))))) pss_nil)
      (pss_one (ps_ret (pe_and (pe_callB call_isi (by rfl) T.z_isinstance (by decide +kernel) (pa_cons (pv 2) (pa_cons (pe_glob (v := .ref A.c_Stretch) (by rfl) T.g_Stretch rfl) pa_nil))) (pe_one (pe_cmpR op_eq (pe_call (ok_show_stretch T) hr5 rfl T.g_show_stretch T.F_show_stretch.kp T.b_show_stretch .nil pass0 (pa_cons (pv 2) pa_nil)) (pv 1) (nomark _)))))))))), ?_⟩
    refine ⟨_, rfl, _, rfl, way, y, rfl, hw, (hv _ (Same.refl _)).1, fun r H1 s1 got bad => ?_⟩
    refine stT (σ' := [some (.int way), some (y), some (r)]) rfl ?_
    refine ⟨_, rfl, _, rfl, way, y, rfl, (hv _ s1).1, fun H2 s2 => ⟨_, rfl, ?_⟩⟩
    have s12 := s1.trans s2
    cases hd : dueOf way y with
    | false =>
      refine iteT' rfl ?_
      obtain ⟨e, dd, rfl, ee, ed⟩ := bad hd
      have ee := s2 _ _ ee
      have ed : BadAt dd _ _ := s2 _ _ ed
      obtain ⟨_, ⟨ty, b, tx, kx⟩, se⟩ := hv _ s12
      refine ⟨_, rfl, e, _, dd, _, _, _, true, rfl, ee, ed, T.C_BadText, fun _ z => z, T.kit_BT, _, rfl, ?_⟩
      refine iteF' rfl ?_
      refine ⟨_, rfl, e, _, dd, _, _, rfl, ee, ed, T.C_BadText.x, T.no_BadText, rfl, _, _, _, _, _, rfl, .ty _, tx, kx, _, rfl, _, _, _, _, _, rfl, .ty _, tx, kx, rfl, _, rfl, ?_⟩
      refine iteF' (by simp) ?_
      exact ⟨_, rfl, e, _, dd, _, _, rfl, ee, ed, T.C_BadText.x, T.no_BadText, rfl, _, rfl, rfl, se, k _ s12⟩
    | true =>
    refine iteF' rfl ?_
    rcases got hd with ⟨w0, a, q, rfl, hn, bq, rfl⟩ | ⟨w1, a, b, t, rfl, hn, bb, bt, rfl⟩ | ⟨w2, a, p, q, b1, b2, rfl, hn, bp, bq, rfl⟩
    · have hn := hn.mono s2
      refine ⟨_, rfl, rfl, _, rfl, ?_⟩
      refine iteT' (dint_eq w0) ?_
      refine ⟨_, rfl, _, _, _, _, true, rfl, .own _, .base (.ins hn.choose_spec T.cl_Number T.ca_Number T.cn T.ct T.cm_Number), T.kit_NumNum, _, rfl, ?_⟩
      refine iteT' rfl ?_
      refine ⟨_, rfl, a, q, rfl, hn, bq.mono (by decide), _, rfl, rfl, ?_⟩
      rw [decide_eq_true rfl]
      exact k _ s12
    · have hn := hn.mono s2
      refine ⟨_, rfl, rfl, _, rfl, ?_⟩
      refine iteF' (dint_ne (by omega)) ?_
      refine ⟨_, rfl, rfl, _, rfl, ?_⟩
      refine iteT' (dint_eq w1) ?_
      refine ⟨_, rfl, _, _, _, _, true, rfl, .own _, .base (.ins hn.ex.choose_spec.choose_spec.choose_spec.1 T.cl_Line T.ca_Line T.cn T.ct T.cm_Line), T.kit_LinLin, _, rfl, ?_⟩
      refine iteT' rfl ?_
      refine ⟨_, rfl, a, b, t, rfl, hn, bb.mono (by decide), bt.mono (by decide), fun H3 s3 => ⟨_, rfl, rfl, ?_⟩⟩
      rw [decide_eq_true rfl]
      exact k _ (s12.trans s3)
    · have hn := hn.mono s2
      refine ⟨_, rfl, rfl, _, rfl, ?_⟩
      refine iteF' (dint_ne (by omega)) ?_
      refine ⟨_, rfl, rfl, _, rfl, ?_⟩
      refine iteF' (dint_ne (by omega)) ?_
      refine ⟨_, rfl, _, _, _, _, true, rfl, .own _, .base (.ins hn.choose_spec.choose_spec.choose_spec.choose_spec.1 T.cl_Stretch T.ca_Stretch T.cn T.ct T.cm_Stretch), T.kit_StrStr, _, rfl, ?_⟩
      refine iteT' rfl ?_
      refine ⟨_, rfl, a, p, q, b1, b2, rfl, hn, bp.mono (by decide), bq.mono (by decide), _, rfl, rfl, ?_⟩
      rw [decide_eq_true rfl]
      exact k _ s12
end
/-! ### _law_bent, _law_drawn -/
theorem PT.mono {H H' : Hp} {r : Addr} {q : Rat} (h : PT H r q) (s : Same H H') : PT H' r q := s _ _ h
theorem PT.but {p : Addr} {H H' : Hp} {r : Addr} {q : Rat} (h : PT H r q) (s : SameBut p H H') (hp : ∃ xs, H p = some (.lst xs)) : PT H' r q := tup_but h s hp
theorem cut_to (l : List Nat) {i : Int} (h0 : 0 ≤ i) : cutS (S l) none (some i) = S (l.take i.toNat) := by
  unfold cutS
  rw [len_S]
  show (⟨((l.drop 0).take ((if i < 0 then (i + (l.length : Int)).toNat else min i.toNat l.length) - 0)).toArray⟩ : Str) = S (l.take i.toNat)
  rw [if_neg (by omega), List.drop_zero, Nat.sub_zero]
  congr 2
  by_cases h : i.toNat ≤ l.length
  · rw [Nat.min_eq_left h]
  · rw [Nat.min_eq_right (by omega), List.take_of_length_le (by omega), List.take_of_length_le (by omega)]
theorem cut_from (l : List Nat) {i : Int} (h0 : 0 ≤ i) : cutS (S l) (some i) none = S (l.drop i.toNat) := by
  unfold cutS
  rw [len_S]
  show (⟨((l.drop (if i < 0 then (i + (l.length : Int)).toNat else min i.toNat l.length)).take (l.length - (if i < 0 then (i + (l.length : Int)).toNat else min i.toNat l.length))).toArray⟩ : Str) = S (l.drop i.toNat)
  rw [if_neg (by omega), List.take_of_length_le (by simp)]
  by_cases h : i.toNat ≤ l.length
  · rw [Nat.min_eq_left h]
  · rw [Nat.min_eq_right (by omega), List.drop_of_length_le (by omega), List.drop_of_length_le (by omega)]
theorem signs : ∀ v ∈ ([V.str "0", V.str "1", V.str "-", V.str "+", V.str "/", V.str "s", V.str " ", V.str "[", V.str "]", V.str "(", V.str ")", V.str "2", V.str ".", V.str "x"] : List V), ∃ c : Nat, v = .str (S [c]) := by
  repeat (first | exact List.forall_mem_nil _ | refine List.forall_mem_cons.mpr ⟨⟨_, rfl⟩, ?_⟩)
section
variable {P : Program} {w : World} {K : PySem.W.Frag} {mg : Str → Option Value} {base : Heap} {A : Ad}
def spBent : Sp := fun vs H Q _ => ∃ (p : Addr) (l : List Nat) (n : Nat), vs = [.ref p, .str (S l)] ∧ l.length ≤ 9000 ∧ Pot H p n ∧ n ≤ 90000 ∧ ∀ l' H', l'.length ≤ l.length + 1 → Pot H' p (n + 3) → SameBut p H H' → Q (.str (S l')) H'
theorem ok_law_bent (T : Txt K mg A) : FnOk P w K mg base CX0 3 A.f_law_bent A.d_law_bent ["pot", "text"] spBent := by
  refine T.F_law_bent.ok sc_law_bent (fun vs H Q E h => ?_) (fun cdv B outer s H vs Q E hr h => ?_)
  · obtain ⟨p, l, n, rfl, _⟩ := h
    rfl
  · obtain ⟨p, l, n, rfl, hl, hP, hn, k⟩ := h
    have hr1 : Room 1 _ := hr.mono (by decide)
    have hr2 : Room 2 _ := hr.mono (by decide)
    refine ⟨_, (pss_cons (ps_par (i := 2) (j := 3) rfl sc_law_bent.nd rfl rfl (by decide) rfl rfl (pa_cons (pe_call (ok_law_take T) hr1 rfl T.g_law_take T.F_law_take.kp T.b_law_take .nil pass0 (pa_cons (pv 0) (pa_cons (pe_op op_add (pe_callB call_len_str (by rfl) T.z_len (by decide +kernel) (pa_cons (pv 1) pa_nil)) pe_int) pa_nil))) (pa_cons (pe_call (ok_law_take T) hr1 rfl T.g_law_take T.F_law_take.kp T.b_law_take .nil pass0 (pa_cons (pv 0) (pa_cons pe_int pa_nil))) pa_nil)) (by rfl))
      (pss_cons (ps_set (i := 4) sc_law_bent.nd rfl (Or.inl rfl) (pe_call (ok_law_of T) hr2 rfl T.g_law_of T.F_law_of.kp T.b_law_of .nil pass0 (pa_cons (pv 0) (pa_cons (pe_lst (pa_cons pe_str (pa_cons pe_str (pa_cons pe_str (pa_cons pe_str (pa_cons pe_str (pa_cons pe_str (pa_cons pe_str (pa_cons pe_str (pa_cons pe_str (pa_cons pe_str (pa_cons pe_str (pa_cons pe_str (pa_cons pe_str (pa_cons pe_str pa_nil))))))))))))))) pa_nil))))
      (pss_cons (ps_if (pt_cmpR op_eq (pv 3) pe_int (nomark _)) (pss_one (ps_ret (pe_op op_add_str (pe_slice sl_str (pv 1) po_none (po_some (pv 2))) (pe_slice sl_str (pv 1) (po_some (pe_op op_add (pv 2) pe_int)) po_none)))) pss_nil)
      (pss_one (ps_ret (pe_op op_add_str (pe_op op_add_str (pe_slice sl_str (pv 1) po_none (po_some (pv 2))) (pv 4)) (pe_slice sl_str (pv 1) (po_some (pe_op op_add (pv 2) (pe_callTy call_int1 (by rfl) T.z_int (by decide +kernel) (pa_cons (pe_cmpR op_gt (pv 3) pe_int (nomark _)) pa_nil)))) po_none))))))), ?_⟩
    have hl2 : l.length ≤ 10000 := by omega
    refine ⟨_, rfl, _, rfl, _, rfl, by rw [len_S]; exact lt_line hl2, _, _, rfl, rfl, p, _, n, rfl, by rw [len_S]; omega, by rw [len_S]; exact up_lt (n := 9000) (show ((l.length : Int) + 1).natAbs < 2 ^ 20 by omega) (by decide), hP, (by omega), fun i H1 i0 i1 P1 s1 => ?_⟩
    rw [len_S] at i1
    refine ⟨_, rfl, p, 4, n + 1, rfl, (by decide), up_lt (n := 9000) (show (4 : Int).natAbs < 2 ^ 8 by decide) (by decide), P1, (by omega), fun w H2 w0 w1 P2 s2 => ?_⟩
    refine ⟨_, _, rfl, ?_⟩
    refine stT (σ' := [some (.ref p), some (.str (S l)), some (.int i), some (.int w), none]) rfl ?_
    refine ⟨_, rfl, by show 14 ≤ sizeLine; decide, fun m hm => ?_⟩
    obtain ⟨xs1, e1⟩ := P2.lst
    refine ⟨p, m, _, n + 2, rfl, upd_same, (ne_of_none e1 hm).symm, by simp, by show 14 ≤ 1000; decide, P2.same (same_new hm), (by omega), fun v H3 hv P3 s3 => ?_⟩
    obtain ⟨c, rfl⟩ := signs v hv
    have sb := (s1.trans (s2.same (same_new hm))).trans s3
    refine stT (σ' := [some (.ref p), some (.str (S l)), some (.int i), some (.int w), some (.str (S [c]))]) rfl ?_
    have lz := lt_line hl2
    refine ⟨_, rfl, rfl, _, rfl, ?_⟩
    by_cases wz : w = 0
    · refine iteT' (dint_eq wz) ?_
      refine ⟨_, rfl, _, rfl, _, rfl, _, rfl, by rw [len_S]; exact lz, _, rfl, _, rfl, _, _, rfl, rfl, _, rfl, _, rfl, by rw [len_S]; exact lz, ?_⟩
      rw [cut_to l i0, cut_from l (by omega)]
      refine ⟨_, _, rfl, rfl, ?_, ?_⟩
      · rw [len_S, len_S, sizeLine_eq]
        simp
        omega
      · rw [S_app]
        exact k _ _ (by simp; omega) P3 sb
    · refine iteF' (dint_ne wz) ?_
      refine ⟨_, rfl, _, rfl, _, rfl, _, rfl, by rw [len_S]; exact lz, ?_⟩
      rw [cut_to l i0]
      refine ⟨_, rfl, _, _, rfl, rfl, ?_, ?_⟩
      · rw [len_S, len_S, sizeLine_eq]
        simp
        omega
      rw [S_app]
      have b0 := bit_nn (decide (1 < w))
      refine ⟨_, rfl, _, rfl, _, rfl, _, _, rfl, rfl, Or.inr ⟨_, rfl, _, _, rfl, rfl, _, rfl, _, rfl, by rw [len_S]; exact lz, ?_⟩⟩
      rw [cut_from l (by omega)]
      refine ⟨_, _, rfl, rfl, ?_, ?_⟩
      · rw [len_S, len_S, sizeLine_eq]
        simp
        omega
      · rw [S_app]
        exact k _ _ (by simp; omega) P3 sb
def spDrawn94 : Sp := fun vs H Q _ => ∃ (p : Addr) (way : Int) (n : Nat), vs = [.ref p, .int way] ∧ Pot H p n ∧ n ≤ 70000 ∧ ∀ l H', l.length ≤ 8900 → Pot H' p (n + 14) → SameBut p H H' → Q (.str (S l)) H'
theorem ok_law_drawn (T : Txt K mg A) : FnOk P w K mg base CX0 5 A.f_law_drawn A.d_law_drawn ["pot", "way"] spDrawn94 := by
  refine T.F_law_drawn.ok sc_law_drawn (fun vs H Q E h => ?_) (fun cdv B outer s H vs Q E hr h => ?_)
  · obtain ⟨p, way, n, rfl, _⟩ := h
    rfl
  · obtain ⟨p, way, n, rfl, hP, hn, k⟩ := h
    have hr1 : Room 1 _ := hr.mono (by decide)
    have hr2 : Room 2 _ := hr.mono (by decide)
    have hr4 : Room 4 _ := hr.mono (by decide)
    refine ⟨_, (pss_cons (ps_par (i := 2) (j := 3) rfl sc_law_drawn.nd rfl rfl (by decide) rfl rfl (pa_cons (pe_call (ok_law_pair T) hr4 rfl T.g_law_pair T.F_law_pair.kp T.b_law_pair .nil pass0 (pa_cons (pv 0) pa_nil)) (pa_cons (pe_call (ok_law_pair T) hr4 rfl T.g_law_pair T.F_law_pair.kp T.b_law_pair .nil pass0 (pa_cons (pv 0) pa_nil)) pa_nil)) (by rfl))
      (pss_cons (ps_if (pt_cmpR op_eq (pv 1) pe_int (nomark _)) (pss_one (ps_ret (pe_call (ok_law_number_text T) hr1 rfl T.g_law_number_text T.F_law_number_text.kp T.b_law_number_text .nil pass0 (pa_cons (pv 2) pa_nil)))) pss_nil)
      (pss_cons (ps_if (pt_cmpR op_eq (pv 1) pe_int (nomark _)) (pss_one (ps_ret (pe_call (ok_law_line_text T) hr2 rfl T.g_law_line_text T.F_law_line_text.kp T.b_law_line_text .nil pass0 (pa_cons (pv 2) (pa_cons (pv 3) pa_nil))))) pss_nil)
      (pss_one (ps_ret (pe_op op_add_str (pe_op op_add_str (pe_op op_add_str (pe_op op_add_str (pe_call (ok_law_of T) hr2 rfl T.g_law_of T.F_law_of.kp T.b_law_of .nil pass0 (pa_cons (pv 0) (pa_cons (pe_lst (pa_cons pe_str (pa_cons pe_str pa_nil))) pa_nil))) (pe_call (ok_law_number_text T) hr1 rfl T.g_law_number_text T.F_law_number_text.kp T.b_law_number_text .nil pass0 (pa_cons (pv 2) pa_nil))) pe_str) (pe_call (ok_law_number_text T) hr1 rfl T.g_law_number_text T.F_law_number_text.kp T.b_law_number_text .nil pass0 (pa_cons (pv 3) pa_nil))) (pe_call (ok_law_of T) hr2 rfl T.g_law_of T.F_law_of.kp T.b_law_of .nil pass0 (pa_cons (pv 0) (pa_cons (pe_lst (pa_cons pe_str (pa_cons pe_str pa_nil))) pa_nil))))))))), ?_⟩
    refine ⟨_, rfl, p, n, rfl, hP, (by omega), fun q1 u H1 d1 e1 P1 s1 => ?_⟩
    refine ⟨_, rfl, p, n + 6, rfl, P1, (by omega), fun q2 v H2 d2 e2 P s2 => ?_⟩
    refine ⟨_, _, rfl, ?_⟩
    have e1 := e1.but s2 P1.lst
    have sb := s1.trans s2
    have b1 := d1.bd.mono (show 100 ≤ 1900 by decide)
    have b2 := d2.bd.mono (show 100 ≤ 1900 by decide)
    have l1 := numT_le b1
    have l2 := numT_le b2
    refine stT (σ' := [some (.ref p), some (.int way), some (.ref u), some (.ref v)]) rfl ?_
    refine ⟨_, rfl, rfl, _, rfl, ?_⟩
    by_cases w0 : way = 0
    · refine iteT' (dint_eq w0) ?_
      exact ⟨_, rfl, u, q1, rfl, e1, b1, k _ _ (by omega) (P.mono (by omega)) sb⟩
    refine iteF' (dint_ne w0) ?_
    refine ⟨_, rfl, rfl, _, rfl, ?_⟩
    by_cases w1 : way = 1
    · refine iteT' (dint_eq w1) ?_
      exact ⟨_, rfl, _, rfl, u, v, q1, q2, rfl, e1, e2, b1, b2, fun H3 s3 => k _ _ (Nat.le_trans (showLine_le b1 b2) (by decide)) ((P.same s3).mono (by omega)) (sb.same s3)⟩
    refine iteF' (dint_ne w1) ?_
    refine ⟨_, rfl, by show 2 ≤ sizeLine; decide, fun m hm => ?_⟩
    obtain ⟨xs1, ex1⟩ := P.lst
    refine ⟨p, m, _, n + 12, rfl, upd_same, (ne_of_none ex1 hm).symm, by simp, by show 2 ≤ 1000; decide, P.same (same_new hm), (by omega), fun x H3 hx P3 s3 => ?_⟩
    have sg : ∀ v ∈ ([V.str "[", V.str "("] : List V), ∃ c : Nat, v = .str (S [c]) := by
      repeat (first | exact List.forall_mem_nil _ | refine List.forall_mem_cons.mpr ⟨⟨_, rfl⟩, ?_⟩)
    have sg2 : ∀ v ∈ ([V.str "]", V.str ")"] : List V), ∃ c : Nat, v = .str (S [c]) := by
      repeat (first | exact List.forall_mem_nil _ | refine List.forall_mem_cons.mpr ⟨⟨_, rfl⟩, ?_⟩)
    obtain ⟨c, rfl⟩ := sg x hx
    have sb := (sb.same (same_new hm)).trans s3
    have e1 := (e1.mono (same_new hm)).but s3 (P.same (same_new hm)).lst
    have e2 := (e2.mono (same_new hm)).but s3 (P.same (same_new hm)).lst
    refine ⟨_, rfl, u, q1, rfl, e1, b1, _, _, rfl, rfl, ?_, ?_⟩
    · rw [len_S, len_S, sizeLine_eq]
      simp
      omega
    rw [S_app]
    refine ⟨_, _, rfl, rfl, ?_, ?_⟩
    · rw [e32, len_S, len_S, sizeLine_eq]
      simp
      omega
    rw [e32, S_app]
    refine ⟨_, rfl, v, q2, rfl, e2, b2, _, _, rfl, rfl, ?_, ?_⟩
    · rw [len_S, len_S, sizeLine_eq]
      simp
      omega
    rw [S_app]
    refine ⟨_, rfl, by show 2 ≤ sizeLine; decide, fun m2 hm2 => ?_⟩
    obtain ⟨xs3, ex3⟩ := P3.lst
    refine ⟨p, m2, _, n + 13, rfl, upd_same, (ne_of_none ex3 hm2).symm, by simp, by show 2 ≤ 1000; decide, P3.same (same_new hm2), (by omega), fun y H4 hy P4 s4 => ?_⟩
    obtain ⟨f, rfl⟩ := sg2 y hy
    refine ⟨_, _, rfl, rfl, ?_, ?_⟩
    · rw [len_S, len_S, sizeLine_eq]
      simp
      omega
    rw [S_app]
    exact k _ _ (by simp; omega) P4 ((sb.same (same_new hm2)).trans s4)
end
/-! ### the law -/
theorem but_same {p : Addr} {H0 H H' : Hp} (sb : SameBut p H H') (s : Same H0 H) (h : H0 p = none) : Same H0 H' := fun b o e => sb b o (s b o e) (ne_of_none e h)
theorem Pot.upl {H : Hp} {p D : Addr} {n : Nat} {o : HO} (h : Pot H p n) (ne : p ≠ D) : Pot (upd H D o) p n := by
  obtain ⟨own, mix, c, e, h⟩ := h
  exact ⟨own, mix, c, by rw [upd_ne ne]; exact e, h⟩
theorem rep_map (n : Nat) : ((List.replicate n true).map V.bl) = List.replicate n (V.bl true) := List.map_replicate
def spLaw (K : PySem.W.Frag) : Sp := fun vs H Q _ => ∃ (a : Addr) (ns : List Int), vs = [.ref a] ∧ SqL K H a (ns.map V.int) ∧ ns.length ≤ 63 ∧ ∀ H', Q (.bl true) H'
/-! ### k94: the law -/
theorem op_mul_str {X : Cx} : OpR X (binaryOp .Mult) (fun x y H Q => ∃ (a : Str) (n : Int), x = .str a ∧ y = .int n ∧ MulOk a n ∧ Q (.str (Txt.mul a n)) H) := by
  intro pins s σ H x y v u Q I rx ry h
  obtain ⟨a, n, rfl, rfl, hz, q⟩ := h
  obtain ⟨t, rfl⟩ := rx
  obtain ⟨t', rfl⟩ := ry
  exact SB.mul hz fun t' k => ⟨.str (Txt.mul a n), H, I.tok _, ⟨_, rfl⟩, q⟩
theorem mul_one : MulOk ("1" : Str) 30 ∧ MulOk ("1" : Str) 31 ∧ MulOk ("3" : Str) 30 ∧ MulOk ("3" : Str) 31 := by
  refine ⟨?_, ?_, ?_, ?_⟩ <;> exact ⟨by decide, fun _ _ => by decide +kernel, fun _ _ => by decide +kernel⟩
section
variable {P : Program} {w : World} {K : PySem.W.Frag} {mg : Str → Option Value} {base : Heap} {A : Ad}
theorem val_str (T : Txt K mg A) {H : Hp} {z : Str} (h : z.length ≤ 10000) : ValOk K H (.str z) := fun Hh _ =>
  ⟨.inl ⟨z.cps.toList, rfl, by simpa [Str.length] using h⟩, ⟨_, _, .base (.str _), T.kit_strbl⟩, .inl rfl⟩
theorem val_odd (T : Txt K mg A) {H : Hp} : ValOk K H .non ∧ (∀ b, ValOk K H (.bl b)) ∧ (∀ n, ValOk K H (.int n)) := by
  refine ⟨fun Hh _ => ⟨.inr ⟨_, .base .non, T.kit_nonstr⟩, ⟨_, _, .base .non, T.kit_nonbl⟩, .inl rfl⟩, fun b Hh _ => ⟨.inr ⟨_, .base (.bl b), T.kit_blstr⟩, ⟨_, _, .base (.bl b), T.kit_blbl⟩, .inl rfl⟩, fun n Hh _ => ⟨.inr ⟨_, .base (.int n), T.kit_intstr⟩, ⟨_, _, .base (.int n), T.kit_intbl⟩, .inl rfl⟩⟩
theorem val_tup (T : Txt K mg A) {H : Hp} {a : Addr} (h : H a = some (.tup [])) : ValOk K H (.ref a) := fun Hh z =>
  ⟨.inr ⟨_, .base (.tup (z _ _ h)), T.kit_tupstr⟩, ⟨_, _, .base (.tup (z _ _ h)), T.kit_tupbl⟩, .inr (.inl ⟨a, [], rfl, SqT.of (z _ _ h), List.forall_mem_nil _⟩)⟩
theorem val_tup1 (T : Txt K mg A) {H : Hp} {a : Addr} (h : H a = some (.tup [.str "1"])) : ValOk K H (.ref a) := fun Hh z =>
  ⟨.inr ⟨_, .base (.tup (z _ _ h)), T.kit_tupstr⟩, ⟨_, _, .base (.tup (z _ _ h)), T.kit_tupbl⟩, .inr (.inl ⟨a, _, rfl, SqT.of (z _ _ h), List.forall_mem_cons.mpr ⟨.inl rfl, List.forall_mem_nil _⟩⟩)⟩
theorem val_lst (T : Txt K mg A) {H : Hp} {a : Addr} (h : H a = some (.lst [])) : ValOk K H (.ref a) := fun Hh z =>
  ⟨.inr ⟨_, .base (.lst (z _ _ h)), T.kit_lststr⟩, ⟨_, _, .base (.lst (z _ _ h)), T.kit_lstbl⟩, .inr (.inr (.inl ⟨a, [], rfl, SqL.of (z _ _ h), List.forall_mem_nil _⟩))⟩
theorem val_lst1 (T : Txt K mg A) {H : Hp} {a : Addr} (h : H a = some (.lst [.str "1"])) : ValOk K H (.ref a) := fun Hh z =>
  ⟨.inr ⟨_, .base (.lst (z _ _ h)), T.kit_lststr⟩, ⟨_, _, .base (.lst (z _ _ h)), T.kit_lstbl⟩, .inr (.inr (.inl ⟨a, _, rfl, SqL.of (z _ _ h), List.forall_mem_cons.mpr ⟨rfl, List.forall_mem_nil _⟩⟩))⟩
theorem val_dct (T : Txt K mg A) {H : Hp} {a : Addr} (h : H a = some (.dK [])) : ValOk K H (.ref a) := fun Hh z =>
  ⟨.inr ⟨_, .base (.dK (z _ _ h)), T.kit_dctstr⟩, ⟨_, _, .base (.dK (z _ _ h)), T.kit_dctbl⟩, .inr (.inr (.inr ⟨a, rfl, z _ _ h⟩))⟩
theorem ValOk.mono {H H' : Hp} {y : V} (h : ValOk K H y) (s : Same H H') : ValOk K H' y := fun Hh z => h Hh (s.trans z)
def spDummy : Prop := True
theorem turns3 (n : Int) : (if (if n < 3 then n else 3) > 1 then (if n < 3 then n else 3) else 1) ≤ 3 ∧ 1 ≤ (if (if n < 3 then n else 3) > 1 then (if n < 3 then n else 3) else 1) := by
  constructor <;> (repeat (first | split | omega))
theorem ok_law (TW : TxtW w K mg A) : FnOk PP w K mg base CX0 13 A.f_law A.d_law ["script"] (spLaw K) := by
  have T := TW.t
  refine T.F_law.ok sc_law (fun vs H Q E h => ?_) (fun cdv B outer s H vs Q E hr h => ?_)
  · obtain ⟨a, ns, rfl, _⟩ := h
    rfl
  · obtain ⟨a, ns, rfl, hS, hlen, k⟩ := h
    have hr1 : Room 1 _ := hr.mono (by decide)
    have hr3 : Room 3 _ := hr.mono (by decide)
    have hr5 : Room 5 _ := hr.mono (by decide)
    have hr12 : Room 12 _ := hr.mono (by decide)
    refine ⟨_, (pss_cons (ps_set (i := 1) sc_law.nd rfl (Or.inl rfl) (pe_lst (pa_cons pe_str (pa_cons pe_str (pa_cons pe_str (pa_cons pe_str (pa_cons pe_str (pa_cons pe_str (pa_cons pe_str (pa_cons pe_str (pa_cons pe_str (pa_cons pe_str (pa_cons pe_str (pa_cons pe_str (pa_cons pe_str (pa_cons pe_str (pa_cons pe_str (pa_cons pe_str pa_nil))))))))))))))))))
      (pss_cons (ps_set (i := 1) sc_law.nd rfl (Or.inl rfl) (pe_op op_cat (pv 1) (pe_lst (pa_cons pe_str (pa_cons pe_str (pa_cons pe_str (pa_cons pe_str (pa_cons pe_str pa_nil))))))))
      (pss_cons (ps_set (i := 1) sc_law.nd rfl (Or.inl rfl) (pe_op op_cat (pv 1) (pe_lst (pa_cons pe_str (pa_cons pe_str (pa_cons pe_str (pa_cons pe_str (pa_cons pe_str (pa_cons pe_str (pa_cons pe_str pa_nil))))))))))
      (pss_cons (ps_set (i := 1) sc_law.nd rfl (Or.inl rfl) (pe_op op_cat (pv 1) (pe_lst (pa_cons (pe_op op_mul_str pe_str pe_int) (pa_cons (pe_op op_mul_str pe_str pe_int) (pa_cons (pe_op op_add_str pe_str (pe_op op_mul_str pe_str pe_int)) (pa_cons (pe_op op_add_str pe_str (pe_op op_mul_str pe_str pe_int)) (pa_cons pe_str pa_nil))))))))
      (pss_cons (ps_set (i := 1) sc_law.nd rfl (Or.inl rfl) (pe_op op_cat (pv 1) (pe_lst (pa_cons pe_non (pa_cons pe_bl (pa_cons pe_int (pa_cons (pe_tup pa_nil) (pa_cons (pe_lst pa_nil) (pa_cons pe_dnewK (pa_cons (pe_tup (pa_cons pe_str pa_nil)) (pa_cons (pe_lst (pa_cons pe_str pa_nil)) pa_nil)))))))))))
      (pss_cons (ps_for PassesOwn.never rfl (pi_list (pv 1)) (pg_name (i := 2) sc_law.nd rfl (Or.inr rfl))
      (pss_one (ps_if (pt_not (pt_val (pe_callB (cr_all rfl) (by rfl) T.z_all (by decide +kernel) (pa_cons (pe_lc (own := [("way", 3)]) (g := gName 3) (tt := tYes) rfl sc_law.nd (pi_range1 rfl T.z_range (pa_cons pe_int pa_nil)) (blkOk_by (N := N_law) (sc := defScope s_law) (by decide +kernel)) (fun _ _ _ _ _ => (pg_name (i := 3) sc_law.nd rfl (Or.inl rfl))) (fun _ _ _ _ _ => pts_nil) (fun _ _ _ _ _ => (pe_call (ok_law_is_right TW) hr12 rfl T.g_law_is_right T.F_law_is_right.kp T.b_law_is_right .nil pass0 (pa_cons (pv 3) (pa_cons (pv 2) pa_nil))))) pa_nil)))) (pss_one (ps_ret pe_bl)) pss_nil)))
      (pss_cons (ps_for PassesOwn.never rfl (pi_range1 rfl T.z_range (pa_cons (pe_callB (call_max2 rfl) (by rfl) T.z_max (by decide +kernel) (pa_cons pe_int (pa_cons (pe_callB (call_min2 rfl) (by rfl) T.z_min (by decide +kernel) (pa_cons pe_int (pa_cons (pe_callB call_len_seq (by rfl) T.z_len (by decide +kernel) (pa_cons (pv 0) pa_nil)) pa_nil))) pa_nil))) pa_nil)) (pg_name (i := 4) sc_law.nd rfl (Or.inl rfl))
      (pss_cons (ps_set (i := 5) sc_law.nd rfl (Or.inl rfl) (pe_call (ok_law_pot T) hr1 rfl T.g_law_pot T.F_law_pot.kp T.b_law_pot .nil pass0 (pa_cons (pv 0) (pa_cons (pv 4) pa_nil))))
      (pss_one (ps_for PassesOwn.never rfl (pi_range1 rfl T.z_range (pa_cons pe_int pa_nil)) (pg_name (i := 6) sc_law.nd rfl (Or.inl rfl))
      (pss_cons (ps_set (i := 3) sc_law.nd rfl (Or.inl rfl) (pe_call (ok_law_take T) hr1 rfl T.g_law_take T.F_law_take.kp T.b_law_take .nil pass0 (pa_cons (pv 5) (pa_cons pe_int pa_nil))))
      (pss_cons (ps_set (i := 7) sc_law.nd rfl (Or.inl rfl) (pe_call (ok_law_bent T) hr3 rfl T.g_law_bent T.F_law_bent.kp T.b_law_bent .nil pass0 (pa_cons (pv 5) (pa_cons (pe_call (ok_law_drawn T) hr5 rfl T.g_law_drawn T.F_law_drawn.kp T.b_law_drawn .nil pass0 (pa_cons (pv 5) (pa_cons (pv 3) pa_nil))) pa_nil))))
      (pss_cons (ps_set (i := 7) sc_law.nd rfl (Or.inl rfl) (pe_ifExp (pt_cmpR op_eq (pe_call (ok_law_take T) hr1 rfl T.g_law_take T.F_law_take.kp T.b_law_take .nil pass0 (pa_cons (pv 5) (pa_cons pe_int pa_nil))) pe_int (nomark _)) (pe_call (ok_law_bent T) hr3 rfl T.g_law_bent T.F_law_bent.kp T.b_law_bent .nil pass0 (pa_cons (pv 5) (pa_cons (pv 7) pa_nil))) (pv 7)))
      (pss_one (ps_if (pt_not (pt_val (pe_call (ok_law_is_right TW) hr12 rfl T.g_law_is_right T.F_law_is_right.kp T.b_law_is_right .nil pass0 (pa_cons (pv 3) (pa_cons (pv 7) pa_nil))))) (pss_one (ps_ret pe_bl)) pss_nil)))))))))
      (pss_one (ps_ret pe_bl))))))))), ?_⟩
    refine ⟨by show 16 ≤ sizeLine; decide, fun l0 n0 => ?_⟩
    have z0 : Same H (upd H l0 (.lst [.str "", .str "0", .str "-0", .str "00", .str "01", .str "7/1", .str "2/4", .str "3/0", .str "0/5", .str "-1/2", .str "1/-2", .str "+1", .str "1s", .str "0s", .str "-1s", .str "s"])) := same_new n0
    have e0 : (upd H l0 (.lst [.str "", .str "0", .str "-0", .str "00", .str "01", .str "7/1", .str "2/4", .str "3/0", .str "0/5", .str "-1/2", .str "1/-2", .str "+1", .str "1s", .str "0s", .str "-1s", .str "s"])) l0 = some (.lst [.str "", .str "0", .str "-0", .str "00", .str "01", .str "7/1", .str "2/4", .str "3/0", .str "0/5", .str "-1/2", .str "1/-2", .str "+1", .str "1s", .str "0s", .str "-1s", .str "s"]) := upd_same
    have ok0 : ∀ y ∈ ([.str "", .str "0", .str "-0", .str "00", .str "01", .str "7/1", .str "2/4", .str "3/0", .str "0/5", .str "-1/2", .str "1/-2", .str "+1", .str "1s", .str "0s", .str "-1s", .str "s"] : List V), ∀ Hh, ValOk K Hh y := by
      repeat (first | exact List.forall_mem_nil _ | refine List.forall_mem_cons.mpr ⟨fun Hh => val_str T (by decide +kernel), ?_⟩)
    have ln0 : ([.str "", .str "0", .str "-0", .str "00", .str "01", .str "7/1", .str "2/4", .str "3/0", .str "0/5", .str "-1/2", .str "1/-2", .str "+1", .str "1s", .str "0s", .str "-1s", .str "s"] : List V).length ≤ 16 := by decide
    generalize upd H l0 (.lst [.str "", .str "0", .str "-0", .str "00", .str "01", .str "7/1", .str "2/4", .str "3/0", .str "0/5", .str "-1/2", .str "1/-2", .str "+1", .str "1s", .str "0s", .str "-1s", .str "s"]) = H0 at *
    generalize ([.str "", .str "0", .str "-0", .str "00", .str "01", .str "7/1", .str "2/4", .str "3/0", .str "0/5", .str "-1/2", .str "1/-2", .str "+1", .str "1s", .str "0s", .str "-1s", .str "s"] : List V) = xs0 at e0 ok0 ln0
    refine stT (σ' := [some (.ref a), some (.ref l0), none, none, none, none, none, none]) rfl ?_
    refine ⟨_, rfl, by show 5 ≤ sizeLine; decide, fun b1 m1 => ⟨l0, b1, _, _, rfl, rfl, same_new m1 _ _ e0, upd_same, Nat.le_trans (Nat.add_le_add ln0 (show ([.str "2 + 0s", .str "0 + 1s", .str "1 - 1s", .str "1 + -1s", .str "1 +1s"] : List V).length ≤ 5 by decide)) (show 16 + 5 ≤ sizeLine by decide), fun l1 n1 => ?_⟩⟩
    have ok1 : ∀ y ∈ (xs0 ++ [.str "2 + 0s", .str "0 + 1s", .str "1 - 1s", .str "1 + -1s", .str "1 +1s"] : List V), ∀ Hh, ValOk K Hh y := List.forall_mem_append.mpr ⟨ok0, by
      repeat (first | exact List.forall_mem_nil _ | refine List.forall_mem_cons.mpr ⟨fun Hh => val_str T (by decide +kernel), ?_⟩)⟩
    have ln1 : (xs0 ++ [.str "2 + 0s", .str "0 + 1s", .str "1 - 1s", .str "1 + -1s", .str "1 +1s"] : List V).length ≤ 21 := by
      rw [List.length_append]
      exact Nat.add_le_add ln0 (show ([.str "2 + 0s", .str "0 + 1s", .str "1 - 1s", .str "1 + -1s", .str "1 +1s"] : List V).length ≤ 5 by decide)
    generalize ([.str "2 + 0s", .str "0 + 1s", .str "1 - 1s", .str "1 + -1s", .str "1 +1s"] : List V) = ys at *
    have z1 : Same H (upd (upd H0 b1 (.lst ys)) l1 (.lst (xs0 ++ ys))) := (z0.trans (same_new m1)).trans (same_new n1)
    have e1 : (upd (upd H0 b1 (.lst ys)) l1 (.lst (xs0 ++ ys))) l1 = some (.lst (xs0 ++ ys)) := upd_same
    generalize upd (upd H0 b1 (.lst ys)) l1 (.lst (xs0 ++ ys)) = H1 at *
    generalize xs0 ++ ys = xs1 at e1 ok1 ln1
    clear z0 e0 ok0 ln0 m1 n1
    refine stT (σ' := [some (.ref a), some (.ref l1), none, none, none, none, none, none]) rfl ?_
    refine ⟨_, rfl, by show 7 ≤ sizeLine; decide, fun b2 m2 => ⟨l1, b2, _, _, rfl, rfl, same_new m2 _ _ e1, upd_same, Nat.le_trans (Nat.add_le_add ln1 (show ([.str "[0 1]", .str "[1 0]", .str "(1 1]", .str "[1 1]", .str "[0  1]", .str "[0 1", .str "0 1]"] : List V).length ≤ 7 by decide)) (show 21 + 7 ≤ sizeLine by decide), fun l2 n2 => ?_⟩⟩
    have ok2 : ∀ y ∈ (xs1 ++ [.str "[0 1]", .str "[1 0]", .str "(1 1]", .str "[1 1]", .str "[0  1]", .str "[0 1", .str "0 1]"] : List V), ∀ Hh, ValOk K Hh y := List.forall_mem_append.mpr ⟨ok1, by
      repeat (first | exact List.forall_mem_nil _ | refine List.forall_mem_cons.mpr ⟨fun Hh => val_str T (by decide +kernel), ?_⟩)⟩
    have ln2 : (xs1 ++ [.str "[0 1]", .str "[1 0]", .str "(1 1]", .str "[1 1]", .str "[0  1]", .str "[0 1", .str "0 1]"] : List V).length ≤ 28 := by
      rw [List.length_append]
      exact Nat.add_le_add ln1 (show ([.str "[0 1]", .str "[1 0]", .str "(1 1]", .str "[1 1]", .str "[0  1]", .str "[0 1", .str "0 1]"] : List V).length ≤ 7 by decide)
    generalize ([.str "[0 1]", .str "[1 0]", .str "(1 1]", .str "[1 1]", .str "[0  1]", .str "[0 1", .str "0 1]"] : List V) = ys at *
    have z2 : Same H (upd (upd H1 b2 (.lst ys)) l2 (.lst (xs1 ++ ys))) := (z1.trans (same_new m2)).trans (same_new n2)
    have e2 : (upd (upd H1 b2 (.lst ys)) l2 (.lst (xs1 ++ ys))) l2 = some (.lst (xs1 ++ ys)) := upd_same
    generalize upd (upd H1 b2 (.lst ys)) l2 (.lst (xs1 ++ ys)) = H2 at *
    generalize xs1 ++ ys = xs2 at e2 ok2 ln2
    clear z1 e1 ok1 ln1 m2 n2
    refine stT (σ' := [some (.ref a), some (.ref l2), none, none, none, none, none, none]) rfl ?_
    refine ⟨_, rfl, _, _, rfl, rfl, mul_one.1, _, _, rfl, rfl, mul_one.2.1, _, _, rfl, rfl, mul_one.2.2.1, _, _, rfl, rfl, by decide +kernel, _, _, rfl, rfl, mul_one.2.2.2, _, _, rfl, rfl, by decide +kernel, by show 5 ≤ sizeLine; decide, fun b3 m3 => ⟨l2, b3, _, _, rfl, rfl, same_new m3 _ _ e2, upd_same, Nat.le_trans (Nat.add_le_add ln2 (show ([.str (Txt.mul "1" 30), .str (Txt.mul "1" 31), .str ("1/" ++ Txt.mul "3" 30), .str ("1/" ++ Txt.mul "3" 31), .str " 1"] : List V).length ≤ 5 by decide)) (show 28 + 5 ≤ sizeLine by decide), fun l3 n3 => ?_⟩⟩
    have ok3 : ∀ y ∈ (xs2 ++ [.str (Txt.mul "1" 30), .str (Txt.mul "1" 31), .str ("1/" ++ Txt.mul "3" 30), .str ("1/" ++ Txt.mul "3" 31), .str " 1"] : List V), ∀ Hh, ValOk K Hh y := List.forall_mem_append.mpr ⟨ok2, by
      repeat (first | exact List.forall_mem_nil _ | refine List.forall_mem_cons.mpr ⟨fun Hh => val_str T (by decide +kernel), ?_⟩)⟩
    have ln3 : (xs2 ++ [.str (Txt.mul "1" 30), .str (Txt.mul "1" 31), .str ("1/" ++ Txt.mul "3" 30), .str ("1/" ++ Txt.mul "3" 31), .str " 1"] : List V).length ≤ 33 := by
      rw [List.length_append]
      exact Nat.add_le_add ln2 (show ([.str (Txt.mul "1" 30), .str (Txt.mul "1" 31), .str ("1/" ++ Txt.mul "3" 30), .str ("1/" ++ Txt.mul "3" 31), .str " 1"] : List V).length ≤ 5 by decide)
    generalize ([.str (Txt.mul "1" 30), .str (Txt.mul "1" 31), .str ("1/" ++ Txt.mul "3" 30), .str ("1/" ++ Txt.mul "3" 31), .str " 1"] : List V) = ys at *
    have z3 : Same H (upd (upd H2 b3 (.lst ys)) l3 (.lst (xs2 ++ ys))) := (z2.trans (same_new m3)).trans (same_new n3)
    have e3 : (upd (upd H2 b3 (.lst ys)) l3 (.lst (xs2 ++ ys))) l3 = some (.lst (xs2 ++ ys)) := upd_same
    generalize upd (upd H2 b3 (.lst ys)) l3 (.lst (xs2 ++ ys)) = H3 at *
    generalize xs2 ++ ys = xs3 at e3 ok3 ln3
    clear z2 e2 ok2 ln2 m3 n3
    refine stT (σ' := [some (.ref a), some (.ref l3), none, none, none, none, none, none]) rfl ?_
    refine ⟨_, rfl, by show 0 ≤ sizeLine; decide, fun o1 no1 => ⟨by show 0 ≤ sizeLine; decide, fun o2 no2 => fun o3 no3 => ⟨by show 1 ≤ sizeLine; decide, fun o4 no4 => ⟨by show 1 ≤ sizeLine; decide, fun o5 no5 => ⟨by show 8 ≤ sizeLine; decide, fun b4 m4 => ?_⟩⟩⟩⟩⟩
    have g1 := same_new (o := .tup []) no1
    have eo1 : (upd H3 o1 (.tup [])) o1 = some (.tup []) := upd_same
    generalize upd H3 o1 (.tup []) = G1 at *
    have g2 := same_new (o := .lst []) no2
    have eo2 : (upd G1 o2 (.lst [])) o2 = some (.lst []) := upd_same
    generalize upd G1 o2 (.lst []) = G2 at *
    have g3 := same_new (o := .dK []) no3
    have eo3 : (upd G2 o3 (.dK [])) o3 = some (.dK []) := upd_same
    generalize upd G2 o3 (.dK []) = G3 at *
    have g4 := same_new (o := .tup [.str "1"]) no4
    have eo4 : (upd G3 o4 (.tup [.str "1"])) o4 = some (.tup [.str "1"]) := upd_same
    generalize upd G3 o4 (.tup [.str "1"]) = G4 at *
    have g5 := same_new (o := .lst [.str "1"]) no5
    have eo5 : (upd G4 o5 (.lst [.str "1"])) o5 = some (.lst [.str "1"]) := upd_same
    generalize upd G4 o5 (.lst [.str "1"]) = G5 at *
    have gb := same_new (o := .lst [.non, .bl true, .int 0, .ref o1, .ref o2, .ref o3, .ref o4, .ref o5]) m4
    refine ⟨l3, b4, _, _, rfl, rfl, gb _ _ (g5 _ _ (g4 _ _ (g3 _ _ (g2 _ _ (g1 _ _ e3))))), upd_same, Nat.le_trans (Nat.add_le_add ln3 (show ([.non, .bl true, .int 0, .ref o1, .ref o2, .ref o3, .ref o4, .ref o5] : List V).length ≤ 8 by simp)) (show 33 + 8 ≤ sizeLine by decide), fun l4 n4 => ?_⟩
    have gl := same_new (o := .lst (xs3 ++ [.non, .bl true, .int 0, .ref o1, .ref o2, .ref o3, .ref o4, .ref o5])) n4
    have e4 : (upd (upd G5 b4 (.lst [.non, .bl true, .int 0, .ref o1, .ref o2, .ref o3, .ref o4, .ref o5])) l4 (.lst (xs3 ++ [.non, .bl true, .int 0, .ref o1, .ref o2, .ref o3, .ref o4, .ref o5]))) l4 = some (.lst (xs3 ++ [.non, .bl true, .int 0, .ref o1, .ref o2, .ref o3, .ref o4, .ref o5])) := upd_same
    generalize upd (upd G5 b4 (.lst [.non, .bl true, .int 0, .ref o1, .ref o2, .ref o3, .ref o4, .ref o5])) l4 (.lst (xs3 ++ [.non, .bl true, .int 0, .ref o1, .ref o2, .ref o3, .ref o4, .ref o5])) = H4 at *
    have sl := gb.trans gl
    have sH : Same H H4 := (((((z3.trans g1).trans g2).trans g3).trans g4).trans g5).trans sl
    have f5 := sl _ _ eo5
    have f4 := sl _ _ (g5 _ _ eo4)
    have f3 := sl _ _ (g5 _ _ (g4 _ _ eo3))
    have f2 := sl _ _ (g5 _ _ (g4 _ _ (g3 _ _ eo2)))
    have f1 := sl _ _ (g5 _ _ (g4 _ _ (g3 _ _ (g2 _ _ eo1))))
    have ok4 : ∀ y ∈ (xs3 ++ [.non, .bl true, .int 0, .ref o1, .ref o2, .ref o3, .ref o4, .ref o5] : List V), ∀ Hh, Same H4 Hh → ValOk K Hh y := List.forall_mem_append.mpr ⟨fun y hy Hh _ => ok3 y hy Hh, List.forall_mem_cons.mpr ⟨fun Hh z => (val_odd T).1, List.forall_mem_cons.mpr ⟨fun Hh z => (val_odd T).2.1 _, List.forall_mem_cons.mpr ⟨fun Hh z => (val_odd T).2.2 _, List.forall_mem_cons.mpr ⟨fun Hh z => val_tup T (z _ _ f1), List.forall_mem_cons.mpr ⟨fun Hh z => val_lst T (z _ _ f2), List.forall_mem_cons.mpr ⟨fun Hh z => val_dct T (z _ _ f3), List.forall_mem_cons.mpr ⟨fun Hh z => val_tup1 T (z _ _ f4), List.forall_mem_cons.mpr ⟨fun Hh z => val_lst1 T (z _ _ f5), List.forall_mem_nil _⟩⟩⟩⟩⟩⟩⟩⟩⟩
    generalize (xs3 ++ [.non, .bl true, .int 0, .ref o1, .ref o2, .ref o3, .ref o4, .ref o5] : List V) = xs4 at e4 ok4
    clear gb gl sl eo1 eo2 eo3 eo4 eo5 g1 g2 g3 g4 g5 z3 e3 ok3 ln3 f1 f2 f3 f4 f5 no1 no2 no3 no4 no5 m4 n4
    refine stT (σ' := [some (.ref a), some (.ref l4), none, none, none, none, none, none]) rfl ?_
    refine ⟨_, rfl, l4, rfl, ⟨_, SqL.of e4⟩, for_list (K := K) (a := l4) (xs := xs4) (fun i σ Hh => ∃ v2, σ = [some (.ref a), some (.ref l4), v2, none, none, none, none, none] ∧ Same H4 Hh) ⟨_, rfl, Same.refl _⟩ (fun i σ Hh _ hh => by
      obtain ⟨_, _, s⟩ := hh
      exact SqL.of (s _ _ e4)) ?_ ?_⟩
    · rintro i x σ Hh hi ⟨v2, rfl, z⟩
      have okx := ok4 x (List.mem_of_getElem? hi)
      refine ⟨3, rfl, by decide, by decide, fun D nD => lc_range (lo := 0) (n := 3) (fun i Hj => Same Hh Hj ∧ Hj D = some (.lst (List.replicate i (V.bl true)))) ⟨same_new nD, upd_same⟩ ?_ ?_⟩
      · rintro i2 Hj hi2 ⟨zz, hD⟩
        refine ⟨rfl, yes_of ?_⟩
        refine iteT ?_
        refine ⟨_, rfl, _, rfl, _, x, rfl, by omega, okx Hj (z.trans zz), fun H3 s3 => ?_⟩
        refine ⟨_, s3 _ _ hD, ?_, same_mut (zz.trans s3) nD, ?_⟩
        · rw [List.length_replicate]
          exact Nat.lt_trans hi2 (by decide)
        · rw [upd_same, List.replicate_succ']
      · rintro Hj ⟨zz, hD⟩
        refine ⟨D, List.replicate 3 true, rfl, SqL.of (by rw [hD, rep_map]), _, rfl, ?_⟩
        refine iteF' rfl ?_
        exact ⟨_, rfl, z.trans zz⟩
    rintro σ H5 ⟨v2, rfl, z5⟩
    have s5 := sH.trans z5
    clear sH z5 ok4 e4
    refine ⟨_, rfl, a, _, rfl, Or.inl (s5.seq hS), _, _, rfl, _, _, rfl, _, rfl, ?_⟩
    have h3 := turns3 ((ns.map V.int).length : Int)
    generalize (if (if ((ns.map V.int).length : Int) < 3 then ((ns.map V.int).length : Int) else 3) > 1 then (if ((ns.map V.int).length : Int) < 3 then ((ns.map V.int).length : Int) else 3) else 1) = j at *
    refine ⟨by omega, by omega, for_range (lo := 0) (n := j.toNat) (fun i σ H' => ∃ v3 v4 v5 v6 v7, σ = [some (.ref a), some (.ref l4), v2, v3, v4, v5, v6, v7] ∧ Same H H') ⟨_, _, _, _, _, rfl, s5⟩ ?_ ?_⟩
    · rintro i σ H' hi ⟨v3, v4, v5, v6, v7, rfl, z⟩
      refine ⟨_, rfl, _, rfl, a, ns, _, rfl, z.seq hS, by omega, by omega, fun p H1 s1 np hP => ?_⟩
      have hHp : H p = none := z.free np
      have z1 := z.trans s1
      clear z s1 np
      refine stT (σ' := [some (.ref a), some (.ref l4), v2, v3, some (.int (0 + (i : Int))), some (.ref p), v6, v7]) rfl ?_
      refine ⟨20, rfl, by decide, by decide, for_range (lo := 0) (n := 20) (fun i2 σ Hh => ∃ v3 v6 v7, σ = [some (.ref a), some (.ref l4), v2, v3, some (.int (0 + (i : Int))), some (.ref p), v6, v7] ∧ Same H Hh ∧ Pot Hh p (22 * i2)) ⟨_, _, _, rfl, z1, hP⟩ ?_ ?_⟩
      · rintro i2 σ Hh hi2 ⟨v3, v6, v7, rfl, zz, hPh⟩
        refine ⟨_, rfl, p, 3, 22 * i2, rfl, (by decide), up_lt (n := 9000) (show (3 : Int).natAbs < 2 ^ 8 by decide) (by decide), hPh, (by omega), fun w H2 w0 w1 P1 sb1 => ?_⟩
        refine stT (σ' := [some (.ref a), some (.ref l4), v2, some (.int w), some (.int (0 + (i : Int))), some (.ref p), some (.int (0 + (i2 : Int))), v7]) rfl ?_
        refine ⟨_, rfl, _, rfl, _, rfl, p, w, 22 * i2 + 1, rfl, P1, (by omega), fun l H3 hl P2 sb2 => ⟨p, l, 22 * i2 + 1 + 14, rfl, by omega, P2, (by omega), fun l' H4' hl' P3 sb3 => ?_⟩⟩
        have z4 := but_same ((sb1.trans sb2).trans sb3) zz hHp
        clear zz P1 P2 sb1 sb2 sb3
        refine stT (σ' := [some (.ref a), some (.ref l4), v2, some (.int w), some (.int (0 + (i : Int))), some (.ref p), some (.int (0 + (i2 : Int))), some (.str (S l'))]) rfl ?_
        refine ⟨_, rfl, p, 3, _, rfl, (by decide), up_lt (n := 9000) (show (3 : Int).natAbs < 2 ^ 8 by decide) (by decide), P3, (by omega), fun u H5' u0 u1 P4 sb4 => ?_⟩
        have z5 := but_same sb4 z4 hHp
        refine ⟨rfl, _, rfl, ?_⟩
        by_cases uz : u = 0
        · refine iteT' (dint_eq uz) ?_
          refine ⟨_, rfl, _, rfl, p, l', _, rfl, (by omega), P4, (by omega), fun l2 H6 hl2 P6 sb6 => ?_⟩
          have z6 := but_same sb6 z5 hHp
          refine stT (σ' := [some (.ref a), some (.ref l4), v2, some (.int w), some (.int (0 + (i : Int))), some (.ref p), some (.int (0 + (i2 : Int))), some (.str (S l2))]) rfl ?_
          refine ⟨_, rfl, _, rfl, w, _, rfl, (by omega), val_str T (by rw [len_S]; omega), fun H7 s7 => ⟨_, rfl, iteF' rfl ⟨_, _, _, rfl, z6.trans s7, (P6.same s7).mono (by omega)⟩⟩⟩
        · refine iteF' (dint_ne uz) ?_
          refine ⟨_, rfl, ?_⟩
          refine stT (σ' := [some (.ref a), some (.ref l4), v2, some (.int w), some (.int (0 + (i : Int))), some (.ref p), some (.int (0 + (i2 : Int))), some (.str (S l'))]) rfl ?_
          refine ⟨_, rfl, _, rfl, w, _, rfl, (by omega), val_str T (by rw [len_S]; omega), fun H7 s7 => ⟨_, rfl, iteF' rfl ⟨_, _, _, rfl, z5.trans s7, (P4.same s7).mono (by omega)⟩⟩⟩
      · rintro σ Hh ⟨v3, v6, v7, rfl, zz, hPh⟩
        exact ⟨_, _, _, _, _, rfl, zz⟩
    · rintro σ H' ⟨v3, v4, v5, v6, v7, rfl, z⟩
      exact k _
end
theorem all_mk {w : World} {K : PySem.W.Frag} {h : Heap} {mg : Str → Option Value} (X : K.In h) (G : h.Ns mainGlobals mg)
    {c_SpeedError : Addr}
    {c_BadStretch : Addr}
    {c_BadText : Addr}
    {c_Number : Addr}
    {c_Line : Addr}
    {c_Stretch : Addr}
    {f_BadStretch_init : Addr}
    {nm_BadStretch : Str}
    {qn_BadStretch : Str}
    {Ns_BadStretch : Addr}
    {bs_BadStretch : List Value}
    {bm_BadStretch : List Value}
    {sn_BadStretch : List Str}
    {sub_BadStretch : List Value}
    {ab_BadStretch : Bool}
    {col_BadStretch : Option Bool}
    {dd_BadStretch : Option Addr}
    {k0_BadStretch : Option Value}
    {k1_BadStretch : Option Value}
    {k2_BadStretch : Option Value}
    {k3_BadStretch : Option Value}
    {k5_BadStretch : Option Value}
    {oc_BadStretch : Value}
    {od_BadStretch : Option Addr}
    {an_BadStretch : Option Addr}
    {osl_BadStretch : Array (Option Value)}
    {kV_BadStretch : Value}
    {dc_BadStretch : Value}
    {pm_BadStretch : Value}
    {ct_BadStretch : Value}
    {cda_BadStretch : Addr}
    {cc_BadStretch : Addr}
    {ccl_BadStretch : Value}
    {cdd_BadStretch : Option Addr}
    {cvs_BadStretch : Array Value}
    {ccs_BadStretch : Array (Option Value)}
    {file_BadStretch : Str}
    {tf_BadStretch : Tok}
    {cl_BadStretch : Value}
    {cld_BadStretch : Option Addr}
    {csl_BadStretch : Array (Option Value)}
    {f_BadText_init : Addr}
    {nm_BadText : Str}
    {qn_BadText : Str}
    {Ns_BadText : Addr}
    {bs_BadText : List Value}
    {bm_BadText : List Value}
    {sn_BadText : List Str}
    {sub_BadText : List Value}
    {ab_BadText : Bool}
    {col_BadText : Option Bool}
    {dd_BadText : Option Addr}
    {k0_BadText : Option Value}
    {k1_BadText : Option Value}
    {k2_BadText : Option Value}
    {k3_BadText : Option Value}
    {k5_BadText : Option Value}
    {oc_BadText : Value}
    {od_BadText : Option Addr}
    {an_BadText : Option Addr}
    {osl_BadText : Array (Option Value)}
    {kV_BadText : Value}
    {dc_BadText : Value}
    {pm_BadText : Value}
    {ct_BadText : Value}
    {cda_BadText : Addr}
    {cc_BadText : Addr}
    {ccl_BadText : Value}
    {cdd_BadText : Option Addr}
    {cvs_BadText : Array Value}
    {ccs_BadText : Array (Option Value)}
    {file_BadText : Str}
    {tf_BadText : Tok}
    {cl_BadText : Value}
    {cld_BadText : Option Addr}
    {csl_BadText : Array (Option Value)}
    {f_is_integer : Addr}
    {oc_is_integer : Value}
    {kV_is_integer : Value}
    {dc_is_integer : Value}
    {pm_is_integer : Value}
    {cd_is_integer : Value}
    {ct_is_integer : Value}
    {od_is_integer : Option Addr}
    {an_is_integer : Option Addr}
    {osl_is_integer : Array (Option Value)}
    {f_shared_divisor : Addr}
    {oc_shared_divisor : Value}
    {kV_shared_divisor : Value}
    {dc_shared_divisor : Value}
    {pm_shared_divisor : Value}
    {cd_shared_divisor : Value}
    {ct_shared_divisor : Value}
    {od_shared_divisor : Option Addr}
    {an_shared_divisor : Option Addr}
    {osl_shared_divisor : Array (Option Value)}
    {f_Number_init : Addr}
    {oc_Number_init : Value}
    {kV_Number_init : Value}
    {dc_Number_init : Value}
    {pm_Number_init : Value}
    {cd_Number_init : Value}
    {ct_Number_init : Value}
    {od_Number_init : Option Addr}
    {an_Number_init : Option Addr}
    {osl_Number_init : Array (Option Value)}
    {T_Number_init : Addr}
    {t_Number_init_0 : Tok}
    {oT_Number_init : Value}
    {dT_Number_init : Option Addr}
    {nT_Number_init : Nat}
    {sT_Number_init : Array (Option Value)}
    {f_Number_top : Addr}
    {p_Number_top : Addr}
    {r_Number_top : List Value}
    {oc_Number_top : Value}
    {kV_Number_top : Value}
    {dc_Number_top : Value}
    {pm_Number_top : Value}
    {cd_Number_top : Value}
    {ct_Number_top : Value}
    {od_Number_top : Option Addr}
    {an_Number_top : Option Addr}
    {osl_Number_top : Array (Option Value)}
    {f_Number_bottom : Addr}
    {p_Number_bottom : Addr}
    {r_Number_bottom : List Value}
    {oc_Number_bottom : Value}
    {kV_Number_bottom : Value}
    {dc_Number_bottom : Value}
    {pm_Number_bottom : Value}
    {cd_Number_bottom : Value}
    {ct_Number_bottom : Value}
    {od_Number_bottom : Option Addr}
    {an_Number_bottom : Option Addr}
    {osl_Number_bottom : Array (Option Value)}
    {f_Number_eq : Addr}
    {oc_Number_eq : Value}
    {kV_Number_eq : Value}
    {dc_Number_eq : Value}
    {pm_Number_eq : Value}
    {cd_Number_eq : Value}
    {ct_Number_eq : Value}
    {od_Number_eq : Option Addr}
    {an_Number_eq : Option Addr}
    {osl_Number_eq : Array (Option Value)}
    {f_Number_is_less : Addr}
    {oc_Number_is_less : Value}
    {kV_Number_is_less : Value}
    {dc_Number_is_less : Value}
    {pm_Number_is_less : Value}
    {cd_Number_is_less : Value}
    {ct_Number_is_less : Value}
    {od_Number_is_less : Option Addr}
    {an_Number_is_less : Option Addr}
    {osl_Number_is_less : Array (Option Value)}
    {f_Number_add : Addr}
    {oc_Number_add : Value}
    {kV_Number_add : Value}
    {dc_Number_add : Value}
    {pm_Number_add : Value}
    {cd_Number_add : Value}
    {ct_Number_add : Value}
    {od_Number_add : Option Addr}
    {an_Number_add : Option Addr}
    {osl_Number_add : Array (Option Value)}
    {f_Number_sub : Addr}
    {oc_Number_sub : Value}
    {kV_Number_sub : Value}
    {dc_Number_sub : Value}
    {pm_Number_sub : Value}
    {cd_Number_sub : Value}
    {ct_Number_sub : Value}
    {od_Number_sub : Option Addr}
    {an_Number_sub : Option Addr}
    {osl_Number_sub : Array (Option Value)}
    {f_Number_divided_by : Addr}
    {oc_Number_divided_by : Value}
    {kV_Number_divided_by : Value}
    {dc_Number_divided_by : Value}
    {pm_Number_divided_by : Value}
    {cd_Number_divided_by : Value}
    {ct_Number_divided_by : Value}
    {od_Number_divided_by : Option Addr}
    {an_Number_divided_by : Option Addr}
    {osl_Number_divided_by : Array (Option Value)}
    {f_Number_neg : Addr}
    {oc_Number_neg : Value}
    {kV_Number_neg : Value}
    {dc_Number_neg : Value}
    {pm_Number_neg : Value}
    {cd_Number_neg : Value}
    {ct_Number_neg : Value}
    {od_Number_neg : Option Addr}
    {an_Number_neg : Option Addr}
    {osl_Number_neg : Array (Option Value)}
    {f_Number_abs : Addr}
    {oc_Number_abs : Value}
    {kV_Number_abs : Value}
    {dc_Number_abs : Value}
    {pm_Number_abs : Value}
    {cd_Number_abs : Value}
    {ct_Number_abs : Value}
    {od_Number_abs : Option Addr}
    {an_Number_abs : Option Addr}
    {osl_Number_abs : Array (Option Value)}
    {f_Number_bool : Addr}
    {oc_Number_bool : Value}
    {kV_Number_bool : Value}
    {dc_Number_bool : Value}
    {pm_Number_bool : Value}
    {cd_Number_bool : Value}
    {ct_Number_bool : Value}
    {od_Number_bool : Option Addr}
    {an_Number_bool : Option Addr}
    {osl_Number_bool : Array (Option Value)}
    {f_whole : Addr}
    {oc_whole : Value}
    {kV_whole : Value}
    {dc_whole : Value}
    {pm_whole : Value}
    {cd_whole : Value}
    {ct_whole : Value}
    {od_whole : Option Addr}
    {an_whole : Option Addr}
    {osl_whole : Array (Option Value)}
    {f_Line_init : Addr}
    {oc_Line_init : Value}
    {kV_Line_init : Value}
    {dc_Line_init : Value}
    {pm_Line_init : Value}
    {cd_Line_init : Value}
    {ct_Line_init : Value}
    {od_Line_init : Option Addr}
    {an_Line_init : Option Addr}
    {osl_Line_init : Array (Option Value)}
    {f_Line_base : Addr}
    {p_Line_base : Addr}
    {r_Line_base : List Value}
    {oc_Line_base : Value}
    {kV_Line_base : Value}
    {dc_Line_base : Value}
    {pm_Line_base : Value}
    {cd_Line_base : Value}
    {ct_Line_base : Value}
    {od_Line_base : Option Addr}
    {an_Line_base : Option Addr}
    {osl_Line_base : Array (Option Value)}
    {f_Line_slope : Addr}
    {p_Line_slope : Addr}
    {r_Line_slope : List Value}
    {oc_Line_slope : Value}
    {kV_Line_slope : Value}
    {dc_Line_slope : Value}
    {pm_Line_slope : Value}
    {cd_Line_slope : Value}
    {ct_Line_slope : Value}
    {od_Line_slope : Option Addr}
    {an_Line_slope : Option Addr}
    {osl_Line_slope : Array (Option Value)}
    {f_Stretch_init : Addr}
    {oc_Stretch_init : Value}
    {dc_Stretch_init : Value}
    {pm_Stretch_init : Value}
    {cd_Stretch_init : Value}
    {ct_Stretch_init : Value}
    {od_Stretch_init : Option Addr}
    {an_Stretch_init : Option Addr}
    {osl_Stretch_init : Array (Option Value)}
    {D_Stretch_init : Addr}
    {f_Stretch_low : Addr}
    {p_Stretch_low : Addr}
    {r_Stretch_low : List Value}
    {oc_Stretch_low : Value}
    {kV_Stretch_low : Value}
    {dc_Stretch_low : Value}
    {pm_Stretch_low : Value}
    {cd_Stretch_low : Value}
    {ct_Stretch_low : Value}
    {od_Stretch_low : Option Addr}
    {an_Stretch_low : Option Addr}
    {osl_Stretch_low : Array (Option Value)}
    {f_Stretch_high : Addr}
    {p_Stretch_high : Addr}
    {r_Stretch_high : List Value}
    {oc_Stretch_high : Value}
    {kV_Stretch_high : Value}
    {dc_Stretch_high : Value}
    {pm_Stretch_high : Value}
    {cd_Stretch_high : Value}
    {ct_Stretch_high : Value}
    {od_Stretch_high : Option Addr}
    {an_Stretch_high : Option Addr}
    {osl_Stretch_high : Array (Option Value)}
    {f_Stretch_has_low : Addr}
    {p_Stretch_has_low : Addr}
    {r_Stretch_has_low : List Value}
    {oc_Stretch_has_low : Value}
    {kV_Stretch_has_low : Value}
    {dc_Stretch_has_low : Value}
    {pm_Stretch_has_low : Value}
    {cd_Stretch_has_low : Value}
    {ct_Stretch_has_low : Value}
    {od_Stretch_has_low : Option Addr}
    {an_Stretch_has_low : Option Addr}
    {osl_Stretch_has_low : Array (Option Value)}
    {f_Stretch_has_high : Addr}
    {p_Stretch_has_high : Addr}
    {r_Stretch_has_high : List Value}
    {oc_Stretch_has_high : Value}
    {kV_Stretch_has_high : Value}
    {dc_Stretch_has_high : Value}
    {pm_Stretch_has_high : Value}
    {cd_Stretch_has_high : Value}
    {ct_Stretch_has_high : Value}
    {od_Stretch_has_high : Option Addr}
    {an_Stretch_has_high : Option Addr}
    {osl_Stretch_has_high : Array (Option Value)}
    {f_show_number : Addr}
    {oc_show_number : Value}
    {kV_show_number : Value}
    {dc_show_number : Value}
    {pm_show_number : Value}
    {cd_show_number : Value}
    {ct_show_number : Value}
    {od_show_number : Option Addr}
    {an_show_number : Option Addr}
    {osl_show_number : Array (Option Value)}
    {f_show_line : Addr}
    {oc_show_line : Value}
    {kV_show_line : Value}
    {dc_show_line : Value}
    {pm_show_line : Value}
    {cd_show_line : Value}
    {ct_show_line : Value}
    {od_show_line : Option Addr}
    {an_show_line : Option Addr}
    {osl_show_line : Array (Option Value)}
    {f_show_stretch : Addr}
    {oc_show_stretch : Value}
    {kV_show_stretch : Value}
    {dc_show_stretch : Value}
    {pm_show_stretch : Value}
    {cd_show_stretch : Value}
    {ct_show_stretch : Value}
    {od_show_stretch : Option Addr}
    {an_show_stretch : Option Addr}
    {osl_show_stretch : Array (Option Value)}
    {f_digits_in : Addr}
    {oc_digits_in : Value}
    {kV_digits_in : Value}
    {dc_digits_in : Value}
    {pm_digits_in : Value}
    {cd_digits_in : Value}
    {ct_digits_in : Value}
    {od_digits_in : Option Addr}
    {an_digits_in : Option Addr}
    {osl_digits_in : Array (Option Value)}
    {f_number_in : Addr}
    {oc_number_in : Value}
    {kV_number_in : Value}
    {dc_number_in : Value}
    {pm_number_in : Value}
    {cd_number_in : Value}
    {ct_number_in : Value}
    {od_number_in : Option Addr}
    {an_number_in : Option Addr}
    {osl_number_in : Array (Option Value)}
    {f_slope_in : Addr}
    {oc_slope_in : Value}
    {kV_slope_in : Value}
    {dc_slope_in : Value}
    {pm_slope_in : Value}
    {cd_slope_in : Value}
    {ct_slope_in : Value}
    {od_slope_in : Option Addr}
    {an_slope_in : Option Addr}
    {osl_slope_in : Array (Option Value)}
    {f_line_in : Addr}
    {oc_line_in : Value}
    {kV_line_in : Value}
    {dc_line_in : Value}
    {pm_line_in : Value}
    {cd_line_in : Value}
    {ct_line_in : Value}
    {od_line_in : Option Addr}
    {an_line_in : Option Addr}
    {osl_line_in : Array (Option Value)}
    {f_stretch_in : Addr}
    {oc_stretch_in : Value}
    {kV_stretch_in : Value}
    {dc_stretch_in : Value}
    {pm_stretch_in : Value}
    {cd_stretch_in : Value}
    {ct_stretch_in : Value}
    {od_stretch_in : Option Addr}
    {an_stretch_in : Option Addr}
    {osl_stretch_in : Array (Option Value)}
    {f_read_by : Addr}
    {oc_read_by : Value}
    {kV_read_by : Value}
    {dc_read_by : Value}
    {pm_read_by : Value}
    {cd_read_by : Value}
    {ct_read_by : Value}
    {od_read_by : Option Addr}
    {an_read_by : Option Addr}
    {osl_read_by : Array (Option Value)}
    {f_read_number : Addr}
    {oc_read_number : Value}
    {kV_read_number : Value}
    {dc_read_number : Value}
    {pm_read_number : Value}
    {cd_read_number : Value}
    {ct_read_number : Value}
    {od_read_number : Option Addr}
    {an_read_number : Option Addr}
    {osl_read_number : Array (Option Value)}
    {f_read_line : Addr}
    {oc_read_line : Value}
    {kV_read_line : Value}
    {dc_read_line : Value}
    {pm_read_line : Value}
    {cd_read_line : Value}
    {ct_read_line : Value}
    {od_read_line : Option Addr}
    {an_read_line : Option Addr}
    {osl_read_line : Array (Option Value)}
    {f_read_stretch : Addr}
    {oc_read_stretch : Value}
    {kV_read_stretch : Value}
    {dc_read_stretch : Value}
    {pm_read_stretch : Value}
    {cd_read_stretch : Value}
    {ct_read_stretch : Value}
    {od_read_stretch : Option Addr}
    {an_read_stretch : Option Addr}
    {osl_read_stretch : Array (Option Value)}
    {f_law_pot : Addr}
    {oc_law_pot : Value}
    {kV_law_pot : Value}
    {dc_law_pot : Value}
    {pm_law_pot : Value}
    {cd_law_pot : Value}
    {ct_law_pot : Value}
    {od_law_pot : Option Addr}
    {an_law_pot : Option Addr}
    {osl_law_pot : Array (Option Value)}
    {f_law_take : Addr}
    {oc_law_take : Value}
    {kV_law_take : Value}
    {dc_law_take : Value}
    {pm_law_take : Value}
    {cd_law_take : Value}
    {ct_law_take : Value}
    {od_law_take : Option Addr}
    {an_law_take : Option Addr}
    {osl_law_take : Array (Option Value)}
    {f_law_of : Addr}
    {oc_law_of : Value}
    {kV_law_of : Value}
    {dc_law_of : Value}
    {pm_law_of : Value}
    {cd_law_of : Value}
    {ct_law_of : Value}
    {od_law_of : Option Addr}
    {an_law_of : Option Addr}
    {osl_law_of : Array (Option Value)}
    {f_law_digits : Addr}
    {oc_law_digits : Value}
    {kV_law_digits : Value}
    {dc_law_digits : Value}
    {pm_law_digits : Value}
    {cd_law_digits : Value}
    {ct_law_digits : Value}
    {od_law_digits : Option Addr}
    {an_law_digits : Option Addr}
    {osl_law_digits : Array (Option Value)}
    {f_law_lowest : Addr}
    {oc_law_lowest : Value}
    {kV_law_lowest : Value}
    {dc_law_lowest : Value}
    {pm_law_lowest : Value}
    {cd_law_lowest : Value}
    {ct_law_lowest : Value}
    {od_law_lowest : Option Addr}
    {an_law_lowest : Option Addr}
    {osl_law_lowest : Array (Option Value)}
    {f_law_pair : Addr}
    {oc_law_pair : Value}
    {kV_law_pair : Value}
    {dc_law_pair : Value}
    {pm_law_pair : Value}
    {cd_law_pair : Value}
    {ct_law_pair : Value}
    {od_law_pair : Option Addr}
    {an_law_pair : Option Addr}
    {osl_law_pair : Array (Option Value)}
    {f_law_number_text : Addr}
    {oc_law_number_text : Value}
    {kV_law_number_text : Value}
    {dc_law_number_text : Value}
    {pm_law_number_text : Value}
    {cd_law_number_text : Value}
    {ct_law_number_text : Value}
    {od_law_number_text : Option Addr}
    {an_law_number_text : Option Addr}
    {osl_law_number_text : Array (Option Value)}
    {f_law_line_text : Addr}
    {oc_law_line_text : Value}
    {kV_law_line_text : Value}
    {dc_law_line_text : Value}
    {pm_law_line_text : Value}
    {cd_law_line_text : Value}
    {ct_law_line_text : Value}
    {od_law_line_text : Option Addr}
    {an_law_line_text : Option Addr}
    {osl_law_line_text : Array (Option Value)}
    {f_law_is_digits : Addr}
    {oc_law_is_digits : Value}
    {kV_law_is_digits : Value}
    {dc_law_is_digits : Value}
    {pm_law_is_digits : Value}
    {cd_law_is_digits : Value}
    {ct_law_is_digits : Value}
    {od_law_is_digits : Option Addr}
    {an_law_is_digits : Option Addr}
    {osl_law_is_digits : Array (Option Value)}
    {f_law_number_of : Addr}
    {oc_law_number_of : Value}
    {kV_law_number_of : Value}
    {dc_law_number_of : Value}
    {pm_law_number_of : Value}
    {cd_law_number_of : Value}
    {ct_law_number_of : Value}
    {od_law_number_of : Option Addr}
    {an_law_number_of : Option Addr}
    {osl_law_number_of : Array (Option Value)}
    {f_law_is_line : Addr}
    {oc_law_is_line : Value}
    {kV_law_is_line : Value}
    {dc_law_is_line : Value}
    {pm_law_is_line : Value}
    {cd_law_is_line : Value}
    {ct_law_is_line : Value}
    {od_law_is_line : Option Addr}
    {an_law_is_line : Option Addr}
    {osl_law_is_line : Array (Option Value)}
    {f_law_is_stretch : Addr}
    {oc_law_is_stretch : Value}
    {kV_law_is_stretch : Value}
    {dc_law_is_stretch : Value}
    {pm_law_is_stretch : Value}
    {cd_law_is_stretch : Value}
    {ct_law_is_stretch : Value}
    {od_law_is_stretch : Option Addr}
    {an_law_is_stretch : Option Addr}
    {osl_law_is_stretch : Array (Option Value)}
    {f_law_due : Addr}
    {oc_law_due : Value}
    {kV_law_due : Value}
    {dc_law_due : Value}
    {pm_law_due : Value}
    {cd_law_due : Value}
    {ct_law_due : Value}
    {od_law_due : Option Addr}
    {an_law_due : Option Addr}
    {osl_law_due : Array (Option Value)}
    {f_law_read : Addr}
    {oc_law_read : Value}
    {kV_law_read : Value}
    {dc_law_read : Value}
    {pm_law_read : Value}
    {cd_law_read : Value}
    {ct_law_read : Value}
    {od_law_read : Option Addr}
    {an_law_read : Option Addr}
    {osl_law_read : Array (Option Value)}
    {f_law_is_right : Addr}
    {oc_law_is_right : Value}
    {kV_law_is_right : Value}
    {dc_law_is_right : Value}
    {pm_law_is_right : Value}
    {cd_law_is_right : Value}
    {ct_law_is_right : Value}
    {od_law_is_right : Option Addr}
    {an_law_is_right : Option Addr}
    {osl_law_is_right : Array (Option Value)}
    {f_law_bent : Addr}
    {oc_law_bent : Value}
    {kV_law_bent : Value}
    {dc_law_bent : Value}
    {pm_law_bent : Value}
    {cd_law_bent : Value}
    {ct_law_bent : Value}
    {od_law_bent : Option Addr}
    {an_law_bent : Option Addr}
    {osl_law_bent : Array (Option Value)}
    {f_law_drawn : Addr}
    {oc_law_drawn : Value}
    {kV_law_drawn : Value}
    {dc_law_drawn : Value}
    {pm_law_drawn : Value}
    {cd_law_drawn : Value}
    {ct_law_drawn : Value}
    {od_law_drawn : Option Addr}
    {an_law_drawn : Option Addr}
    {osl_law_drawn : Array (Option Value)}
    {f_law : Addr}
    {oc_law : Value}
    {kV_law : Value}
    {dc_law : Value}
    {pm_law : Value}
    {cd_law : Value}
    {ct_law : Value}
    {od_law : Option Addr}
    {an_law : Option Addr}
    {osl_law : Array (Option Value)}
    {ct_BLANK : Tok}
    {ct_STROKE : Tok}
    {ct_MINUS : Tok}
    {ct_PLUS : Tok}
    {ct_OF_SPEED : Tok}
    {ct_DIGITS : Tok}
    {ct_MOST_DIGITS : Tok}
    {ct_THREE : Tok}
    {D_OPENING : Addr}
    {es_OPENING : Array DictEntry}
    {nn_OPENING : Nat}
    {D_CLOSING : Addr}
    {es_CLOSING : Array DictEntry}
    {nn_CLOSING : Nat}
    (a_SpeedError : PySem.W.nsIn K mainGlobals "SpeedError" = some (some (.ref c_SpeedError)))
    (a_BadStretch : PySem.W.nsIn K mainGlobals "BadStretch" = some (some (.ref c_BadStretch)))
    (a_BadText : PySem.W.nsIn K mainGlobals "BadText" = some (some (.ref c_BadText)))
    (a_Number : PySem.W.nsIn K mainGlobals "Number" = some (some (.ref c_Number)))
    (pg_Number : PySem.W.plainGet K c_Number Str.empty = true)
    (hd_Number : PySem.W.hasDictIn K c_Number = true)
    (po_Number : PySem.W.plainOver K c_Number = true)
    (sa_Number : PySem.W.findIn K (.ref c_Number) "__setattr__" = some (some (.builtin "object.__setattr__")))
    (mk_Number : PySem.W.makesIn K c_Number = true)
    (kc_Number : PySem.W.keepIn K (.ref c_Number) = true)
    (sf_Number : PySem.W.selfFirst K c_Number = true)
    (ca_Number : PySem.W.findIn K (.ref c_Number) "__class__" = some (some (.builtin "object.__class__")))
    (cm_Number : PySem.W.mroIn K c_Number (.type "object") = some true)
    (n_Number_own_top : PySem.W.findIn K (.ref c_Number) "own_top" = some none)
    (n_Number_own_bottom : PySem.W.findIn K (.ref c_Number) "own_bottom" = some none)
    (a_Line : PySem.W.nsIn K mainGlobals "Line" = some (some (.ref c_Line)))
    (pg_Line : PySem.W.plainGet K c_Line Str.empty = true)
    (hd_Line : PySem.W.hasDictIn K c_Line = true)
    (po_Line : PySem.W.plainOver K c_Line = true)
    (sa_Line : PySem.W.findIn K (.ref c_Line) "__setattr__" = some (some (.builtin "object.__setattr__")))
    (mk_Line : PySem.W.makesIn K c_Line = true)
    (kc_Line : PySem.W.keepIn K (.ref c_Line) = true)
    (sf_Line : PySem.W.selfFirst K c_Line = true)
    (ca_Line : PySem.W.findIn K (.ref c_Line) "__class__" = some (some (.builtin "object.__class__")))
    (cm_Line : PySem.W.mroIn K c_Line (.type "object") = some true)
    (n_Line_own_base : PySem.W.findIn K (.ref c_Line) "own_base" = some none)
    (n_Line_own_slope : PySem.W.findIn K (.ref c_Line) "own_slope" = some none)
    (a_Stretch : PySem.W.nsIn K mainGlobals "Stretch" = some (some (.ref c_Stretch)))
    (pg_Stretch : PySem.W.plainGet K c_Stretch Str.empty = true)
    (hd_Stretch : PySem.W.hasDictIn K c_Stretch = true)
    (po_Stretch : PySem.W.plainOver K c_Stretch = true)
    (sa_Stretch : PySem.W.findIn K (.ref c_Stretch) "__setattr__" = some (some (.builtin "object.__setattr__")))
    (mk_Stretch : PySem.W.makesIn K c_Stretch = true)
    (kc_Stretch : PySem.W.keepIn K (.ref c_Stretch) = true)
    (sf_Stretch : PySem.W.selfFirst K c_Stretch = true)
    (ca_Stretch : PySem.W.findIn K (.ref c_Stretch) "__class__" = some (some (.builtin "object.__class__")))
    (cm_Stretch : PySem.W.mroIn K c_Stretch (.type "object") = some true)
    (n_Stretch_own_low : PySem.W.findIn K (.ref c_Stretch) "own_low" = some none)
    (n_Stretch_own_high : PySem.W.findIn K (.ref c_Stretch) "own_high" = some none)
    (n_Stretch_includes_low : PySem.W.findIn K (.ref c_Stretch) "includes_low" = some none)
    (n_Stretch_includes_high : PySem.W.findIn K (.ref c_Stretch) "includes_high" = some none)
    (n_Stretch_own_middle : PySem.W.findIn K (.ref c_Stretch) "own_middle" = some none)
    (cn : PySem.W.specialIn K (.builtin "object.__class__") "__get__" = some (some (.builtin "getset_descriptor.__get__")))
    (ct : PySem.W.takesIn K (.builtin "object.__class__") = some true)
    (z_super : PySem.W.nsIn K mainGlobals "super" = some none)
    (tp_any : PySem.W.nsIn K PySem.cStatics "thirdparty.any" = some none)
    (lC_BadStretch : K.lookup c_BadStretch = some (excClassObj nm_BadStretch qn_BadStretch c_BadStretch Ns_BadStretch bs_BadStretch bm_BadStretch true sn_BadStretch sub_BadStretch ab_BadStretch col_BadStretch dd_BadStretch k0_BadStretch k1_BadStretch k2_BadStretch k3_BadStretch k5_BadStretch "ValueError.__new__"))
    (rv_BadStretch : PySem.HandSPX.refsVE bm_BadStretch = true)
    (sa_BadStretch : PySem.W.findIn K (.ref c_BadStretch) "__setattr__" = some (some (.builtin "object.__setattr__")))
    (ex_BadStretch : PySem.W.subIn K (.ref c_BadStretch) (.type "BaseException") = some true)
    (ty_BadStretch : PySem.W.typeIn K (.ref c_BadStretch) = some (.type "type"))
    (kc_BadStretch : PySem.W.keepIn K (.ref c_BadStretch) = true)
    (in_BadStretch : PySem.W.findIn K (.ref c_BadStretch) "__init__" = some (some (.ref f_BadStretch_init)))
    (ti_BadStretch : PySem.W.typeIn K (.ref f_BadStretch_init) = some (.type "function"))
    (lf_BadStretch : K.lookup f_BadStretch_init = some ⟨oc_BadStretch, od_BadStretch, .func (PySem.W.ksFn "__init__" "BadStretch.__init__" (defArgs s_BadStretch_init) (defBody s_BadStretch_init) (defScope s_BadStretch_init) .none kV_BadStretch dc_BadStretch pm_BadStretch an_BadStretch (.ref cda_BadStretch) ct_BadStretch cc_BadStretch), osl_BadStretch⟩)
    (hc_BadStretch : PySem.W.codeIn K (.ref cda_BadStretch) "BadStretch.__init__" = true)
    (lk_BadStretch : K.lookup cda_BadStretch = some ⟨ccl_BadStretch, cdd_BadStretch, .fields cvs_BadStretch, ccs_BadStretch⟩)
    (vs_BadStretch : cvs_BadStretch[2]? = some (.str file_BadStretch tf_BadStretch))
    (fi_BadStretch : ((PP.main.file : Str) == file_BadStretch) = true)
    (lc_BadStretch : K.lookup cc_BadStretch = some ⟨cl_BadStretch, cld_BadStretch, .cell (some (.ref c_BadStretch)), csl_BadStretch⟩)
    (ms_BadStretch : PySem.W.mroIn K c_BadStretch (.ref c_BadStretch) = some true)
    (sv_BadStretch : PySem.W.subIn K (.ref c_BadStretch) (.type "ValueError") = some true)
    (sp_BadStretch : PySem.W.ks_superIn K c_BadStretch c_BadStretch "__init__" = some (some (.builtin "ValueError.__init__")))
    (no_BadStretch : PySem.W.findIn K (.ref c_BadStretch) "value" = some none)
    (ga_BadStretch : PySem.W.findIn K (.ref c_BadStretch) "__getattribute__" = some (some (.builtin "BaseException.__getattribute__")))
    (gg_BadStretch : PySem.W.findIn K (.ref c_BadStretch) "__getattr__" = some none)
    (hd_BadStretch : PySem.W.hasDictIn K c_BadStretch = true)
    (ca_BadStretch : PySem.W.findIn K (.ref c_BadStretch) "__class__" = some (some (.builtin "object.__class__")))
    (cm_BadStretch : PySem.W.mroIn K c_BadStretch (.type "object") = some true)
    (su_BadStretch_SpeedError : PySem.W.subIn K (.ref c_BadStretch) (.ref c_SpeedError) = some true)
    (ic_SpeedError : PySem.W.isClsIn K c_SpeedError = true)
    (sb_SpeedError : PySem.W.subIn K (.ref c_SpeedError) (.type "BaseException") = some true)
    (tt_SpeedError : PySem.W.typeIn K (.ref c_SpeedError) = some (.type "type"))
    (su_BadStretch_BadStretch : PySem.W.subIn K (.ref c_BadStretch) (.ref c_BadStretch) = some true)
    (ic_BadStretch : PySem.W.isClsIn K c_BadStretch = true)
    (sb_BadStretch : PySem.W.subIn K (.ref c_BadStretch) (.type "BaseException") = some true)
    (tt_BadStretch : PySem.W.typeIn K (.ref c_BadStretch) = some (.type "type"))
    (lC_BadText : K.lookup c_BadText = some (excClassObj nm_BadText qn_BadText c_BadText Ns_BadText bs_BadText bm_BadText true sn_BadText sub_BadText ab_BadText col_BadText dd_BadText k0_BadText k1_BadText k2_BadText k3_BadText k5_BadText "ValueError.__new__"))
    (rv_BadText : PySem.HandSPX.refsVE bm_BadText = true)
    (sa_BadText : PySem.W.findIn K (.ref c_BadText) "__setattr__" = some (some (.builtin "object.__setattr__")))
    (ex_BadText : PySem.W.subIn K (.ref c_BadText) (.type "BaseException") = some true)
    (ty_BadText : PySem.W.typeIn K (.ref c_BadText) = some (.type "type"))
    (kc_BadText : PySem.W.keepIn K (.ref c_BadText) = true)
    (in_BadText : PySem.W.findIn K (.ref c_BadText) "__init__" = some (some (.ref f_BadText_init)))
    (ti_BadText : PySem.W.typeIn K (.ref f_BadText_init) = some (.type "function"))
    (lf_BadText : K.lookup f_BadText_init = some ⟨oc_BadText, od_BadText, .func (PySem.W.ksFn "__init__" "BadText.__init__" (defArgs s_BadText_init) (defBody s_BadText_init) (defScope s_BadText_init) .none kV_BadText dc_BadText pm_BadText an_BadText (.ref cda_BadText) ct_BadText cc_BadText), osl_BadText⟩)
    (hc_BadText : PySem.W.codeIn K (.ref cda_BadText) "BadText.__init__" = true)
    (lk_BadText : K.lookup cda_BadText = some ⟨ccl_BadText, cdd_BadText, .fields cvs_BadText, ccs_BadText⟩)
    (vs_BadText : cvs_BadText[2]? = some (.str file_BadText tf_BadText))
    (fi_BadText : ((PP.main.file : Str) == file_BadText) = true)
    (lc_BadText : K.lookup cc_BadText = some ⟨cl_BadText, cld_BadText, .cell (some (.ref c_BadText)), csl_BadText⟩)
    (ms_BadText : PySem.W.mroIn K c_BadText (.ref c_BadText) = some true)
    (sv_BadText : PySem.W.subIn K (.ref c_BadText) (.type "ValueError") = some true)
    (sp_BadText : PySem.W.ks_superIn K c_BadText c_BadText "__init__" = some (some (.builtin "ValueError.__init__")))
    (no_BadText : PySem.W.findIn K (.ref c_BadText) "value" = some none)
    (ga_BadText : PySem.W.findIn K (.ref c_BadText) "__getattribute__" = some (some (.builtin "BaseException.__getattribute__")))
    (gg_BadText : PySem.W.findIn K (.ref c_BadText) "__getattr__" = some none)
    (hd_BadText : PySem.W.hasDictIn K c_BadText = true)
    (ca_BadText : PySem.W.findIn K (.ref c_BadText) "__class__" = some (some (.builtin "object.__class__")))
    (cm_BadText : PySem.W.mroIn K c_BadText (.type "object") = some true)
    (su_BadText_SpeedError : PySem.W.subIn K (.ref c_BadText) (.ref c_SpeedError) = some true)
    (a_is_integer : PySem.W.nsIn K mainGlobals "is_integer" = some (some (.ref f_is_integer)))
    (l_is_integer : K.lookup f_is_integer = some ⟨oc_is_integer, od_is_integer, .func (PySem.W.fnOf "is_integer" "is_integer" (defArgs s_is_integer) (defBody s_is_integer) (defScope s_is_integer) .none kV_is_integer dc_is_integer pm_is_integer an_is_integer cd_is_integer ct_is_integer), osl_is_integer⟩)
    (hc_is_integer : PySem.W.codeIn K cd_is_integer "is_integer" = true)
    (k_is_integer : PySem.W.keepIn K (.ref f_is_integer) = true)
    (a_shared_divisor : PySem.W.nsIn K mainGlobals "shared_divisor" = some (some (.ref f_shared_divisor)))
    (l_shared_divisor : K.lookup f_shared_divisor = some ⟨oc_shared_divisor, od_shared_divisor, .func (PySem.W.fnOf "shared_divisor" "shared_divisor" (defArgs s_shared_divisor) (defBody s_shared_divisor) (defScope s_shared_divisor) .none kV_shared_divisor dc_shared_divisor pm_shared_divisor an_shared_divisor cd_shared_divisor ct_shared_divisor), osl_shared_divisor⟩)
    (hc_shared_divisor : PySem.W.codeIn K cd_shared_divisor "shared_divisor" = true)
    (k_shared_divisor : PySem.W.keepIn K (.ref f_shared_divisor) = true)
    (a_Number_init : PySem.W.findIn K (.ref c_Number) "__init__" = some (some (.ref f_Number_init)))
    (i_Number_init : PySem.W.isFn K (.ref f_Number_init) = true)
    (l_Number_init : K.lookup f_Number_init = some ⟨oc_Number_init, od_Number_init, .func (PySem.W.fnOf "__init__" "Number.__init__" (defArgs s_Number_init) (defBody s_Number_init) (defScope s_Number_init) (.ref T_Number_init) kV_Number_init dc_Number_init pm_Number_init an_Number_init cd_Number_init ct_Number_init), osl_Number_init⟩)
    (hc_Number_init : PySem.W.codeIn K cd_Number_init "Number.__init__" = true)
    (k_Number_init : PySem.W.keepIn K (.ref f_Number_init) = true)
    (lT_Number_init : K.lookup T_Number_init = some ⟨oT_Number_init, dT_Number_init, .seq #[.int 1 t_Number_init_0] nT_Number_init, sT_Number_init⟩)
    (at_Number_top : PySem.W.findIn K (.ref c_Number) "top" = some (some (.ref p_Number_top)))
    (gt_Number_top : PySem.W.specialIn K (.ref p_Number_top) "__get__" = some (some (.builtin "property.__get__")))
    (tk_Number_top : PySem.W.takesIn K (.ref p_Number_top) = some true)
    (rc_Number_top : PySem.W.recIn K p_Number_top "property" = some (.ref f_Number_top :: r_Number_top))
    (l_Number_top : K.lookup f_Number_top = some ⟨oc_Number_top, od_Number_top, .func (PySem.W.fnOf "top" "Number.top" (defArgs s_Number_top) (defBody s_Number_top) (defScope s_Number_top) .none kV_Number_top dc_Number_top pm_Number_top an_Number_top cd_Number_top ct_Number_top), osl_Number_top⟩)
    (hc_Number_top : PySem.W.codeIn K cd_Number_top "Number.top" = true)
    (k_Number_top : PySem.W.keepIn K (.ref f_Number_top) = true)
    (at_Number_bottom : PySem.W.findIn K (.ref c_Number) "bottom" = some (some (.ref p_Number_bottom)))
    (gt_Number_bottom : PySem.W.specialIn K (.ref p_Number_bottom) "__get__" = some (some (.builtin "property.__get__")))
    (tk_Number_bottom : PySem.W.takesIn K (.ref p_Number_bottom) = some true)
    (rc_Number_bottom : PySem.W.recIn K p_Number_bottom "property" = some (.ref f_Number_bottom :: r_Number_bottom))
    (l_Number_bottom : K.lookup f_Number_bottom = some ⟨oc_Number_bottom, od_Number_bottom, .func (PySem.W.fnOf "bottom" "Number.bottom" (defArgs s_Number_bottom) (defBody s_Number_bottom) (defScope s_Number_bottom) .none kV_Number_bottom dc_Number_bottom pm_Number_bottom an_Number_bottom cd_Number_bottom ct_Number_bottom), osl_Number_bottom⟩)
    (hc_Number_bottom : PySem.W.codeIn K cd_Number_bottom "Number.bottom" = true)
    (k_Number_bottom : PySem.W.keepIn K (.ref f_Number_bottom) = true)
    (a_Number_eq : PySem.W.findIn K (.ref c_Number) "__eq__" = some (some (.ref f_Number_eq)))
    (i_Number_eq : PySem.W.isFn K (.ref f_Number_eq) = true)
    (l_Number_eq : K.lookup f_Number_eq = some ⟨oc_Number_eq, od_Number_eq, .func (PySem.W.fnOf "__eq__" "Number.__eq__" (defArgs s_Number_eq) (defBody s_Number_eq) (defScope s_Number_eq) .none kV_Number_eq dc_Number_eq pm_Number_eq an_Number_eq cd_Number_eq ct_Number_eq), osl_Number_eq⟩)
    (hc_Number_eq : PySem.W.codeIn K cd_Number_eq "Number.__eq__" = true)
    (k_Number_eq : PySem.W.keepIn K (.ref f_Number_eq) = true)
    (a_Number_is_less : PySem.W.findIn K (.ref c_Number) "is_less" = some (some (.ref f_Number_is_less)))
    (i_Number_is_less : PySem.W.isFn K (.ref f_Number_is_less) = true)
    (l_Number_is_less : K.lookup f_Number_is_less = some ⟨oc_Number_is_less, od_Number_is_less, .func (PySem.W.fnOf "is_less" "Number.is_less" (defArgs s_Number_is_less) (defBody s_Number_is_less) (defScope s_Number_is_less) .none kV_Number_is_less dc_Number_is_less pm_Number_is_less an_Number_is_less cd_Number_is_less ct_Number_is_less), osl_Number_is_less⟩)
    (hc_Number_is_less : PySem.W.codeIn K cd_Number_is_less "Number.is_less" = true)
    (k_Number_is_less : PySem.W.keepIn K (.ref f_Number_is_less) = true)
    (a_Number_add : PySem.W.findIn K (.ref c_Number) "__add__" = some (some (.ref f_Number_add)))
    (i_Number_add : PySem.W.isFn K (.ref f_Number_add) = true)
    (l_Number_add : K.lookup f_Number_add = some ⟨oc_Number_add, od_Number_add, .func (PySem.W.fnOf "__add__" "Number.__add__" (defArgs s_Number_add) (defBody s_Number_add) (defScope s_Number_add) .none kV_Number_add dc_Number_add pm_Number_add an_Number_add cd_Number_add ct_Number_add), osl_Number_add⟩)
    (hc_Number_add : PySem.W.codeIn K cd_Number_add "Number.__add__" = true)
    (k_Number_add : PySem.W.keepIn K (.ref f_Number_add) = true)
    (a_Number_sub : PySem.W.findIn K (.ref c_Number) "__sub__" = some (some (.ref f_Number_sub)))
    (i_Number_sub : PySem.W.isFn K (.ref f_Number_sub) = true)
    (l_Number_sub : K.lookup f_Number_sub = some ⟨oc_Number_sub, od_Number_sub, .func (PySem.W.fnOf "__sub__" "Number.__sub__" (defArgs s_Number_sub) (defBody s_Number_sub) (defScope s_Number_sub) .none kV_Number_sub dc_Number_sub pm_Number_sub an_Number_sub cd_Number_sub ct_Number_sub), osl_Number_sub⟩)
    (hc_Number_sub : PySem.W.codeIn K cd_Number_sub "Number.__sub__" = true)
    (k_Number_sub : PySem.W.keepIn K (.ref f_Number_sub) = true)
    (a_Number_divided_by : PySem.W.findIn K (.ref c_Number) "divided_by" = some (some (.ref f_Number_divided_by)))
    (i_Number_divided_by : PySem.W.isFn K (.ref f_Number_divided_by) = true)
    (l_Number_divided_by : K.lookup f_Number_divided_by = some ⟨oc_Number_divided_by, od_Number_divided_by, .func (PySem.W.fnOf "divided_by" "Number.divided_by" (defArgs s_Number_divided_by) (defBody s_Number_divided_by) (defScope s_Number_divided_by) .none kV_Number_divided_by dc_Number_divided_by pm_Number_divided_by an_Number_divided_by cd_Number_divided_by ct_Number_divided_by), osl_Number_divided_by⟩)
    (hc_Number_divided_by : PySem.W.codeIn K cd_Number_divided_by "Number.divided_by" = true)
    (k_Number_divided_by : PySem.W.keepIn K (.ref f_Number_divided_by) = true)
    (a_Number_neg : PySem.W.findIn K (.ref c_Number) "__neg__" = some (some (.ref f_Number_neg)))
    (i_Number_neg : PySem.W.isFn K (.ref f_Number_neg) = true)
    (l_Number_neg : K.lookup f_Number_neg = some ⟨oc_Number_neg, od_Number_neg, .func (PySem.W.fnOf "__neg__" "Number.__neg__" (defArgs s_Number_neg) (defBody s_Number_neg) (defScope s_Number_neg) .none kV_Number_neg dc_Number_neg pm_Number_neg an_Number_neg cd_Number_neg ct_Number_neg), osl_Number_neg⟩)
    (hc_Number_neg : PySem.W.codeIn K cd_Number_neg "Number.__neg__" = true)
    (k_Number_neg : PySem.W.keepIn K (.ref f_Number_neg) = true)
    (a_Number_abs : PySem.W.findIn K (.ref c_Number) "__abs__" = some (some (.ref f_Number_abs)))
    (i_Number_abs : PySem.W.isFn K (.ref f_Number_abs) = true)
    (l_Number_abs : K.lookup f_Number_abs = some ⟨oc_Number_abs, od_Number_abs, .func (PySem.W.fnOf "__abs__" "Number.__abs__" (defArgs s_Number_abs) (defBody s_Number_abs) (defScope s_Number_abs) .none kV_Number_abs dc_Number_abs pm_Number_abs an_Number_abs cd_Number_abs ct_Number_abs), osl_Number_abs⟩)
    (hc_Number_abs : PySem.W.codeIn K cd_Number_abs "Number.__abs__" = true)
    (k_Number_abs : PySem.W.keepIn K (.ref f_Number_abs) = true)
    (a_Number_bool : PySem.W.findIn K (.ref c_Number) "__bool__" = some (some (.ref f_Number_bool)))
    (i_Number_bool : PySem.W.isFn K (.ref f_Number_bool) = true)
    (l_Number_bool : K.lookup f_Number_bool = some ⟨oc_Number_bool, od_Number_bool, .func (PySem.W.fnOf "__bool__" "Number.__bool__" (defArgs s_Number_bool) (defBody s_Number_bool) (defScope s_Number_bool) .none kV_Number_bool dc_Number_bool pm_Number_bool an_Number_bool cd_Number_bool ct_Number_bool), osl_Number_bool⟩)
    (hc_Number_bool : PySem.W.codeIn K cd_Number_bool "Number.__bool__" = true)
    (k_Number_bool : PySem.W.keepIn K (.ref f_Number_bool) = true)
    (a_whole : PySem.W.nsIn K mainGlobals "whole" = some (some (.ref f_whole)))
    (l_whole : K.lookup f_whole = some ⟨oc_whole, od_whole, .func (PySem.W.fnOf "whole" "whole" (defArgs s_whole) (defBody s_whole) (defScope s_whole) .none kV_whole dc_whole pm_whole an_whole cd_whole ct_whole), osl_whole⟩)
    (hc_whole : PySem.W.codeIn K cd_whole "whole" = true)
    (k_whole : PySem.W.keepIn K (.ref f_whole) = true)
    (a_Line_init : PySem.W.findIn K (.ref c_Line) "__init__" = some (some (.ref f_Line_init)))
    (i_Line_init : PySem.W.isFn K (.ref f_Line_init) = true)
    (l_Line_init : K.lookup f_Line_init = some ⟨oc_Line_init, od_Line_init, .func (PySem.W.fnOf "__init__" "Line.__init__" (defArgs s_Line_init) (defBody s_Line_init) (defScope s_Line_init) .none kV_Line_init dc_Line_init pm_Line_init an_Line_init cd_Line_init ct_Line_init), osl_Line_init⟩)
    (hc_Line_init : PySem.W.codeIn K cd_Line_init "Line.__init__" = true)
    (k_Line_init : PySem.W.keepIn K (.ref f_Line_init) = true)
    (at_Line_base : PySem.W.findIn K (.ref c_Line) "base" = some (some (.ref p_Line_base)))
    (gt_Line_base : PySem.W.specialIn K (.ref p_Line_base) "__get__" = some (some (.builtin "property.__get__")))
    (tk_Line_base : PySem.W.takesIn K (.ref p_Line_base) = some true)
    (rc_Line_base : PySem.W.recIn K p_Line_base "property" = some (.ref f_Line_base :: r_Line_base))
    (l_Line_base : K.lookup f_Line_base = some ⟨oc_Line_base, od_Line_base, .func (PySem.W.fnOf "base" "Line.base" (defArgs s_Line_base) (defBody s_Line_base) (defScope s_Line_base) .none kV_Line_base dc_Line_base pm_Line_base an_Line_base cd_Line_base ct_Line_base), osl_Line_base⟩)
    (hc_Line_base : PySem.W.codeIn K cd_Line_base "Line.base" = true)
    (k_Line_base : PySem.W.keepIn K (.ref f_Line_base) = true)
    (at_Line_slope : PySem.W.findIn K (.ref c_Line) "slope" = some (some (.ref p_Line_slope)))
    (gt_Line_slope : PySem.W.specialIn K (.ref p_Line_slope) "__get__" = some (some (.builtin "property.__get__")))
    (tk_Line_slope : PySem.W.takesIn K (.ref p_Line_slope) = some true)
    (rc_Line_slope : PySem.W.recIn K p_Line_slope "property" = some (.ref f_Line_slope :: r_Line_slope))
    (l_Line_slope : K.lookup f_Line_slope = some ⟨oc_Line_slope, od_Line_slope, .func (PySem.W.fnOf "slope" "Line.slope" (defArgs s_Line_slope) (defBody s_Line_slope) (defScope s_Line_slope) .none kV_Line_slope dc_Line_slope pm_Line_slope an_Line_slope cd_Line_slope ct_Line_slope), osl_Line_slope⟩)
    (hc_Line_slope : PySem.W.codeIn K cd_Line_slope "Line.slope" = true)
    (k_Line_slope : PySem.W.keepIn K (.ref f_Line_slope) = true)
    (a_Stretch_init : PySem.W.findIn K (.ref c_Stretch) "__init__" = some (some (.ref f_Stretch_init)))
    (i_Stretch_init : PySem.W.isFn K (.ref f_Stretch_init) = true)
    (l_Stretch_init : K.lookup f_Stretch_init = some ⟨oc_Stretch_init, od_Stretch_init, .func (PySem.W.fnOf "__init__" "Stretch.__init__" (defArgs s_Stretch_init) (defBody s_Stretch_init) (defScope s_Stretch_init) .none (.ref D_Stretch_init) dc_Stretch_init pm_Stretch_init an_Stretch_init cd_Stretch_init ct_Stretch_init), osl_Stretch_init⟩)
    (hc_Stretch_init : PySem.W.codeIn K cd_Stretch_init "Stretch.__init__" = true)
    (k_Stretch_init : PySem.W.keepIn K (.ref f_Stretch_init) = true)
    (kw_Stretch_init_has_low : PySem.W.nsIn K D_Stretch_init "has_low" = some (some (.bool true)))
    (kw_Stretch_init_has_high : PySem.W.nsIn K D_Stretch_init "has_high" = some (some (.bool true)))
    (at_Stretch_low : PySem.W.findIn K (.ref c_Stretch) "low" = some (some (.ref p_Stretch_low)))
    (gt_Stretch_low : PySem.W.specialIn K (.ref p_Stretch_low) "__get__" = some (some (.builtin "property.__get__")))
    (tk_Stretch_low : PySem.W.takesIn K (.ref p_Stretch_low) = some true)
    (rc_Stretch_low : PySem.W.recIn K p_Stretch_low "property" = some (.ref f_Stretch_low :: r_Stretch_low))
    (l_Stretch_low : K.lookup f_Stretch_low = some ⟨oc_Stretch_low, od_Stretch_low, .func (PySem.W.fnOf "low" "Stretch.low" (defArgs s_Stretch_low) (defBody s_Stretch_low) (defScope s_Stretch_low) .none kV_Stretch_low dc_Stretch_low pm_Stretch_low an_Stretch_low cd_Stretch_low ct_Stretch_low), osl_Stretch_low⟩)
    (hc_Stretch_low : PySem.W.codeIn K cd_Stretch_low "Stretch.low" = true)
    (k_Stretch_low : PySem.W.keepIn K (.ref f_Stretch_low) = true)
    (at_Stretch_high : PySem.W.findIn K (.ref c_Stretch) "high" = some (some (.ref p_Stretch_high)))
    (gt_Stretch_high : PySem.W.specialIn K (.ref p_Stretch_high) "__get__" = some (some (.builtin "property.__get__")))
    (tk_Stretch_high : PySem.W.takesIn K (.ref p_Stretch_high) = some true)
    (rc_Stretch_high : PySem.W.recIn K p_Stretch_high "property" = some (.ref f_Stretch_high :: r_Stretch_high))
    (l_Stretch_high : K.lookup f_Stretch_high = some ⟨oc_Stretch_high, od_Stretch_high, .func (PySem.W.fnOf "high" "Stretch.high" (defArgs s_Stretch_high) (defBody s_Stretch_high) (defScope s_Stretch_high) .none kV_Stretch_high dc_Stretch_high pm_Stretch_high an_Stretch_high cd_Stretch_high ct_Stretch_high), osl_Stretch_high⟩)
    (hc_Stretch_high : PySem.W.codeIn K cd_Stretch_high "Stretch.high" = true)
    (k_Stretch_high : PySem.W.keepIn K (.ref f_Stretch_high) = true)
    (at_Stretch_has_low : PySem.W.findIn K (.ref c_Stretch) "has_low" = some (some (.ref p_Stretch_has_low)))
    (gt_Stretch_has_low : PySem.W.specialIn K (.ref p_Stretch_has_low) "__get__" = some (some (.builtin "property.__get__")))
    (tk_Stretch_has_low : PySem.W.takesIn K (.ref p_Stretch_has_low) = some true)
    (rc_Stretch_has_low : PySem.W.recIn K p_Stretch_has_low "property" = some (.ref f_Stretch_has_low :: r_Stretch_has_low))
    (l_Stretch_has_low : K.lookup f_Stretch_has_low = some ⟨oc_Stretch_has_low, od_Stretch_has_low, .func (PySem.W.fnOf "has_low" "Stretch.has_low" (defArgs s_Stretch_has_low) (defBody s_Stretch_has_low) (defScope s_Stretch_has_low) .none kV_Stretch_has_low dc_Stretch_has_low pm_Stretch_has_low an_Stretch_has_low cd_Stretch_has_low ct_Stretch_has_low), osl_Stretch_has_low⟩)
    (hc_Stretch_has_low : PySem.W.codeIn K cd_Stretch_has_low "Stretch.has_low" = true)
    (k_Stretch_has_low : PySem.W.keepIn K (.ref f_Stretch_has_low) = true)
    (at_Stretch_has_high : PySem.W.findIn K (.ref c_Stretch) "has_high" = some (some (.ref p_Stretch_has_high)))
    (gt_Stretch_has_high : PySem.W.specialIn K (.ref p_Stretch_has_high) "__get__" = some (some (.builtin "property.__get__")))
    (tk_Stretch_has_high : PySem.W.takesIn K (.ref p_Stretch_has_high) = some true)
    (rc_Stretch_has_high : PySem.W.recIn K p_Stretch_has_high "property" = some (.ref f_Stretch_has_high :: r_Stretch_has_high))
    (l_Stretch_has_high : K.lookup f_Stretch_has_high = some ⟨oc_Stretch_has_high, od_Stretch_has_high, .func (PySem.W.fnOf "has_high" "Stretch.has_high" (defArgs s_Stretch_has_high) (defBody s_Stretch_has_high) (defScope s_Stretch_has_high) .none kV_Stretch_has_high dc_Stretch_has_high pm_Stretch_has_high an_Stretch_has_high cd_Stretch_has_high ct_Stretch_has_high), osl_Stretch_has_high⟩)
    (hc_Stretch_has_high : PySem.W.codeIn K cd_Stretch_has_high "Stretch.has_high" = true)
    (k_Stretch_has_high : PySem.W.keepIn K (.ref f_Stretch_has_high) = true)
    (a_show_number : PySem.W.nsIn K mainGlobals "show_number" = some (some (.ref f_show_number)))
    (l_show_number : K.lookup f_show_number = some ⟨oc_show_number, od_show_number, .func (PySem.W.fnOf "show_number" "show_number" (defArgs s_show_number) (defBody s_show_number) (defScope s_show_number) .none kV_show_number dc_show_number pm_show_number an_show_number cd_show_number ct_show_number), osl_show_number⟩)
    (hc_show_number : PySem.W.codeIn K cd_show_number "show_number" = true)
    (k_show_number : PySem.W.keepIn K (.ref f_show_number) = true)
    (a_show_line : PySem.W.nsIn K mainGlobals "show_line" = some (some (.ref f_show_line)))
    (l_show_line : K.lookup f_show_line = some ⟨oc_show_line, od_show_line, .func (PySem.W.fnOf "show_line" "show_line" (defArgs s_show_line) (defBody s_show_line) (defScope s_show_line) .none kV_show_line dc_show_line pm_show_line an_show_line cd_show_line ct_show_line), osl_show_line⟩)
    (hc_show_line : PySem.W.codeIn K cd_show_line "show_line" = true)
    (k_show_line : PySem.W.keepIn K (.ref f_show_line) = true)
    (a_show_stretch : PySem.W.nsIn K mainGlobals "show_stretch" = some (some (.ref f_show_stretch)))
    (l_show_stretch : K.lookup f_show_stretch = some ⟨oc_show_stretch, od_show_stretch, .func (PySem.W.fnOf "show_stretch" "show_stretch" (defArgs s_show_stretch) (defBody s_show_stretch) (defScope s_show_stretch) .none kV_show_stretch dc_show_stretch pm_show_stretch an_show_stretch cd_show_stretch ct_show_stretch), osl_show_stretch⟩)
    (hc_show_stretch : PySem.W.codeIn K cd_show_stretch "show_stretch" = true)
    (k_show_stretch : PySem.W.keepIn K (.ref f_show_stretch) = true)
    (a_digits_in : PySem.W.nsIn K mainGlobals "digits_in" = some (some (.ref f_digits_in)))
    (l_digits_in : K.lookup f_digits_in = some ⟨oc_digits_in, od_digits_in, .func (PySem.W.fnOf "digits_in" "digits_in" (defArgs s_digits_in) (defBody s_digits_in) (defScope s_digits_in) .none kV_digits_in dc_digits_in pm_digits_in an_digits_in cd_digits_in ct_digits_in), osl_digits_in⟩)
    (hc_digits_in : PySem.W.codeIn K cd_digits_in "digits_in" = true)
    (k_digits_in : PySem.W.keepIn K (.ref f_digits_in) = true)
    (a_number_in : PySem.W.nsIn K mainGlobals "number_in" = some (some (.ref f_number_in)))
    (l_number_in : K.lookup f_number_in = some ⟨oc_number_in, od_number_in, .func (PySem.W.fnOf "number_in" "number_in" (defArgs s_number_in) (defBody s_number_in) (defScope s_number_in) .none kV_number_in dc_number_in pm_number_in an_number_in cd_number_in ct_number_in), osl_number_in⟩)
    (hc_number_in : PySem.W.codeIn K cd_number_in "number_in" = true)
    (k_number_in : PySem.W.keepIn K (.ref f_number_in) = true)
    (a_slope_in : PySem.W.nsIn K mainGlobals "slope_in" = some (some (.ref f_slope_in)))
    (l_slope_in : K.lookup f_slope_in = some ⟨oc_slope_in, od_slope_in, .func (PySem.W.fnOf "slope_in" "slope_in" (defArgs s_slope_in) (defBody s_slope_in) (defScope s_slope_in) .none kV_slope_in dc_slope_in pm_slope_in an_slope_in cd_slope_in ct_slope_in), osl_slope_in⟩)
    (hc_slope_in : PySem.W.codeIn K cd_slope_in "slope_in" = true)
    (k_slope_in : PySem.W.keepIn K (.ref f_slope_in) = true)
    (a_line_in : PySem.W.nsIn K mainGlobals "line_in" = some (some (.ref f_line_in)))
    (l_line_in : K.lookup f_line_in = some ⟨oc_line_in, od_line_in, .func (PySem.W.fnOf "line_in" "line_in" (defArgs s_line_in) (defBody s_line_in) (defScope s_line_in) .none kV_line_in dc_line_in pm_line_in an_line_in cd_line_in ct_line_in), osl_line_in⟩)
    (hc_line_in : PySem.W.codeIn K cd_line_in "line_in" = true)
    (k_line_in : PySem.W.keepIn K (.ref f_line_in) = true)
    (a_stretch_in : PySem.W.nsIn K mainGlobals "stretch_in" = some (some (.ref f_stretch_in)))
    (l_stretch_in : K.lookup f_stretch_in = some ⟨oc_stretch_in, od_stretch_in, .func (PySem.W.fnOf "stretch_in" "stretch_in" (defArgs s_stretch_in) (defBody s_stretch_in) (defScope s_stretch_in) .none kV_stretch_in dc_stretch_in pm_stretch_in an_stretch_in cd_stretch_in ct_stretch_in), osl_stretch_in⟩)
    (hc_stretch_in : PySem.W.codeIn K cd_stretch_in "stretch_in" = true)
    (k_stretch_in : PySem.W.keepIn K (.ref f_stretch_in) = true)
    (a_read_by : PySem.W.nsIn K mainGlobals "read_by" = some (some (.ref f_read_by)))
    (l_read_by : K.lookup f_read_by = some ⟨oc_read_by, od_read_by, .func (PySem.W.fnOf "read_by" "read_by" (defArgs s_read_by) (defBody s_read_by) (defScope s_read_by) .none kV_read_by dc_read_by pm_read_by an_read_by cd_read_by ct_read_by), osl_read_by⟩)
    (hc_read_by : PySem.W.codeIn K cd_read_by "read_by" = true)
    (k_read_by : PySem.W.keepIn K (.ref f_read_by) = true)
    (a_read_number : PySem.W.nsIn K mainGlobals "read_number" = some (some (.ref f_read_number)))
    (l_read_number : K.lookup f_read_number = some ⟨oc_read_number, od_read_number, .func (PySem.W.fnOf "read_number" "read_number" (defArgs s_read_number) (defBody s_read_number) (defScope s_read_number) .none kV_read_number dc_read_number pm_read_number an_read_number cd_read_number ct_read_number), osl_read_number⟩)
    (hc_read_number : PySem.W.codeIn K cd_read_number "read_number" = true)
    (k_read_number : PySem.W.keepIn K (.ref f_read_number) = true)
    (a_read_line : PySem.W.nsIn K mainGlobals "read_line" = some (some (.ref f_read_line)))
    (l_read_line : K.lookup f_read_line = some ⟨oc_read_line, od_read_line, .func (PySem.W.fnOf "read_line" "read_line" (defArgs s_read_line) (defBody s_read_line) (defScope s_read_line) .none kV_read_line dc_read_line pm_read_line an_read_line cd_read_line ct_read_line), osl_read_line⟩)
    (hc_read_line : PySem.W.codeIn K cd_read_line "read_line" = true)
    (k_read_line : PySem.W.keepIn K (.ref f_read_line) = true)
    (a_read_stretch : PySem.W.nsIn K mainGlobals "read_stretch" = some (some (.ref f_read_stretch)))
    (l_read_stretch : K.lookup f_read_stretch = some ⟨oc_read_stretch, od_read_stretch, .func (PySem.W.fnOf "read_stretch" "read_stretch" (defArgs s_read_stretch) (defBody s_read_stretch) (defScope s_read_stretch) .none kV_read_stretch dc_read_stretch pm_read_stretch an_read_stretch cd_read_stretch ct_read_stretch), osl_read_stretch⟩)
    (hc_read_stretch : PySem.W.codeIn K cd_read_stretch "read_stretch" = true)
    (k_read_stretch : PySem.W.keepIn K (.ref f_read_stretch) = true)
    (a_law_pot : PySem.W.nsIn K mainGlobals "_law_pot" = some (some (.ref f_law_pot)))
    (l_law_pot : K.lookup f_law_pot = some ⟨oc_law_pot, od_law_pot, .func (PySem.W.fnOf "_law_pot" "_law_pot" (defArgs s_law_pot) (defBody s_law_pot) (defScope s_law_pot) .none kV_law_pot dc_law_pot pm_law_pot an_law_pot cd_law_pot ct_law_pot), osl_law_pot⟩)
    (hc_law_pot : PySem.W.codeIn K cd_law_pot "_law_pot" = true)
    (k_law_pot : PySem.W.keepIn K (.ref f_law_pot) = true)
    (a_law_take : PySem.W.nsIn K mainGlobals "_law_take" = some (some (.ref f_law_take)))
    (l_law_take : K.lookup f_law_take = some ⟨oc_law_take, od_law_take, .func (PySem.W.fnOf "_law_take" "_law_take" (defArgs s_law_take) (defBody s_law_take) (defScope s_law_take) .none kV_law_take dc_law_take pm_law_take an_law_take cd_law_take ct_law_take), osl_law_take⟩)
    (hc_law_take : PySem.W.codeIn K cd_law_take "_law_take" = true)
    (k_law_take : PySem.W.keepIn K (.ref f_law_take) = true)
    (a_law_of : PySem.W.nsIn K mainGlobals "_law_of" = some (some (.ref f_law_of)))
    (l_law_of : K.lookup f_law_of = some ⟨oc_law_of, od_law_of, .func (PySem.W.fnOf "_law_of" "_law_of" (defArgs s_law_of) (defBody s_law_of) (defScope s_law_of) .none kV_law_of dc_law_of pm_law_of an_law_of cd_law_of ct_law_of), osl_law_of⟩)
    (hc_law_of : PySem.W.codeIn K cd_law_of "_law_of" = true)
    (k_law_of : PySem.W.keepIn K (.ref f_law_of) = true)
    (a_law_digits : PySem.W.nsIn K mainGlobals "_law_digits" = some (some (.ref f_law_digits)))
    (l_law_digits : K.lookup f_law_digits = some ⟨oc_law_digits, od_law_digits, .func (PySem.W.fnOf "_law_digits" "_law_digits" (defArgs s_law_digits) (defBody s_law_digits) (defScope s_law_digits) .none kV_law_digits dc_law_digits pm_law_digits an_law_digits cd_law_digits ct_law_digits), osl_law_digits⟩)
    (hc_law_digits : PySem.W.codeIn K cd_law_digits "_law_digits" = true)
    (k_law_digits : PySem.W.keepIn K (.ref f_law_digits) = true)
    (a_law_lowest : PySem.W.nsIn K mainGlobals "_law_lowest" = some (some (.ref f_law_lowest)))
    (l_law_lowest : K.lookup f_law_lowest = some ⟨oc_law_lowest, od_law_lowest, .func (PySem.W.fnOf "_law_lowest" "_law_lowest" (defArgs s_law_lowest) (defBody s_law_lowest) (defScope s_law_lowest) .none kV_law_lowest dc_law_lowest pm_law_lowest an_law_lowest cd_law_lowest ct_law_lowest), osl_law_lowest⟩)
    (hc_law_lowest : PySem.W.codeIn K cd_law_lowest "_law_lowest" = true)
    (k_law_lowest : PySem.W.keepIn K (.ref f_law_lowest) = true)
    (a_law_pair : PySem.W.nsIn K mainGlobals "_law_pair" = some (some (.ref f_law_pair)))
    (l_law_pair : K.lookup f_law_pair = some ⟨oc_law_pair, od_law_pair, .func (PySem.W.fnOf "_law_pair" "_law_pair" (defArgs s_law_pair) (defBody s_law_pair) (defScope s_law_pair) .none kV_law_pair dc_law_pair pm_law_pair an_law_pair cd_law_pair ct_law_pair), osl_law_pair⟩)
    (hc_law_pair : PySem.W.codeIn K cd_law_pair "_law_pair" = true)
    (k_law_pair : PySem.W.keepIn K (.ref f_law_pair) = true)
    (a_law_number_text : PySem.W.nsIn K mainGlobals "_law_number_text" = some (some (.ref f_law_number_text)))
    (l_law_number_text : K.lookup f_law_number_text = some ⟨oc_law_number_text, od_law_number_text, .func (PySem.W.fnOf "_law_number_text" "_law_number_text" (defArgs s_law_number_text) (defBody s_law_number_text) (defScope s_law_number_text) .none kV_law_number_text dc_law_number_text pm_law_number_text an_law_number_text cd_law_number_text ct_law_number_text), osl_law_number_text⟩)
    (hc_law_number_text : PySem.W.codeIn K cd_law_number_text "_law_number_text" = true)
    (k_law_number_text : PySem.W.keepIn K (.ref f_law_number_text) = true)
    (a_law_line_text : PySem.W.nsIn K mainGlobals "_law_line_text" = some (some (.ref f_law_line_text)))
    (l_law_line_text : K.lookup f_law_line_text = some ⟨oc_law_line_text, od_law_line_text, .func (PySem.W.fnOf "_law_line_text" "_law_line_text" (defArgs s_law_line_text) (defBody s_law_line_text) (defScope s_law_line_text) .none kV_law_line_text dc_law_line_text pm_law_line_text an_law_line_text cd_law_line_text ct_law_line_text), osl_law_line_text⟩)
    (hc_law_line_text : PySem.W.codeIn K cd_law_line_text "_law_line_text" = true)
    (k_law_line_text : PySem.W.keepIn K (.ref f_law_line_text) = true)
    (a_law_is_digits : PySem.W.nsIn K mainGlobals "_law_is_digits" = some (some (.ref f_law_is_digits)))
    (l_law_is_digits : K.lookup f_law_is_digits = some ⟨oc_law_is_digits, od_law_is_digits, .func (PySem.W.fnOf "_law_is_digits" "_law_is_digits" (defArgs s_law_is_digits) (defBody s_law_is_digits) (defScope s_law_is_digits) .none kV_law_is_digits dc_law_is_digits pm_law_is_digits an_law_is_digits cd_law_is_digits ct_law_is_digits), osl_law_is_digits⟩)
    (hc_law_is_digits : PySem.W.codeIn K cd_law_is_digits "_law_is_digits" = true)
    (k_law_is_digits : PySem.W.keepIn K (.ref f_law_is_digits) = true)
    (a_law_number_of : PySem.W.nsIn K mainGlobals "_law_number_of" = some (some (.ref f_law_number_of)))
    (l_law_number_of : K.lookup f_law_number_of = some ⟨oc_law_number_of, od_law_number_of, .func (PySem.W.fnOf "_law_number_of" "_law_number_of" (defArgs s_law_number_of) (defBody s_law_number_of) (defScope s_law_number_of) .none kV_law_number_of dc_law_number_of pm_law_number_of an_law_number_of cd_law_number_of ct_law_number_of), osl_law_number_of⟩)
    (hc_law_number_of : PySem.W.codeIn K cd_law_number_of "_law_number_of" = true)
    (k_law_number_of : PySem.W.keepIn K (.ref f_law_number_of) = true)
    (a_law_is_line : PySem.W.nsIn K mainGlobals "_law_is_line" = some (some (.ref f_law_is_line)))
    (l_law_is_line : K.lookup f_law_is_line = some ⟨oc_law_is_line, od_law_is_line, .func (PySem.W.fnOf "_law_is_line" "_law_is_line" (defArgs s_law_is_line) (defBody s_law_is_line) (defScope s_law_is_line) .none kV_law_is_line dc_law_is_line pm_law_is_line an_law_is_line cd_law_is_line ct_law_is_line), osl_law_is_line⟩)
    (hc_law_is_line : PySem.W.codeIn K cd_law_is_line "_law_is_line" = true)
    (k_law_is_line : PySem.W.keepIn K (.ref f_law_is_line) = true)
    (a_law_is_stretch : PySem.W.nsIn K mainGlobals "_law_is_stretch" = some (some (.ref f_law_is_stretch)))
    (l_law_is_stretch : K.lookup f_law_is_stretch = some ⟨oc_law_is_stretch, od_law_is_stretch, .func (PySem.W.fnOf "_law_is_stretch" "_law_is_stretch" (defArgs s_law_is_stretch) (defBody s_law_is_stretch) (defScope s_law_is_stretch) .none kV_law_is_stretch dc_law_is_stretch pm_law_is_stretch an_law_is_stretch cd_law_is_stretch ct_law_is_stretch), osl_law_is_stretch⟩)
    (hc_law_is_stretch : PySem.W.codeIn K cd_law_is_stretch "_law_is_stretch" = true)
    (k_law_is_stretch : PySem.W.keepIn K (.ref f_law_is_stretch) = true)
    (a_law_due : PySem.W.nsIn K mainGlobals "_law_due" = some (some (.ref f_law_due)))
    (l_law_due : K.lookup f_law_due = some ⟨oc_law_due, od_law_due, .func (PySem.W.fnOf "_law_due" "_law_due" (defArgs s_law_due) (defBody s_law_due) (defScope s_law_due) .none kV_law_due dc_law_due pm_law_due an_law_due cd_law_due ct_law_due), osl_law_due⟩)
    (hc_law_due : PySem.W.codeIn K cd_law_due "_law_due" = true)
    (k_law_due : PySem.W.keepIn K (.ref f_law_due) = true)
    (a_law_read : PySem.W.nsIn K mainGlobals "_law_read" = some (some (.ref f_law_read)))
    (l_law_read : K.lookup f_law_read = some ⟨oc_law_read, od_law_read, .func (PySem.W.fnOf "_law_read" "_law_read" (defArgs s_law_read) (defBody s_law_read) (defScope s_law_read) .none kV_law_read dc_law_read pm_law_read an_law_read cd_law_read ct_law_read), osl_law_read⟩)
    (hc_law_read : PySem.W.codeIn K cd_law_read "_law_read" = true)
    (k_law_read : PySem.W.keepIn K (.ref f_law_read) = true)
    (a_law_is_right : PySem.W.nsIn K mainGlobals "_law_is_right" = some (some (.ref f_law_is_right)))
    (l_law_is_right : K.lookup f_law_is_right = some ⟨oc_law_is_right, od_law_is_right, .func (PySem.W.fnOf "_law_is_right" "_law_is_right" (defArgs s_law_is_right) (defBody s_law_is_right) (defScope s_law_is_right) .none kV_law_is_right dc_law_is_right pm_law_is_right an_law_is_right cd_law_is_right ct_law_is_right), osl_law_is_right⟩)
    (hc_law_is_right : PySem.W.codeIn K cd_law_is_right "_law_is_right" = true)
    (k_law_is_right : PySem.W.keepIn K (.ref f_law_is_right) = true)
    (a_law_bent : PySem.W.nsIn K mainGlobals "_law_bent" = some (some (.ref f_law_bent)))
    (l_law_bent : K.lookup f_law_bent = some ⟨oc_law_bent, od_law_bent, .func (PySem.W.fnOf "_law_bent" "_law_bent" (defArgs s_law_bent) (defBody s_law_bent) (defScope s_law_bent) .none kV_law_bent dc_law_bent pm_law_bent an_law_bent cd_law_bent ct_law_bent), osl_law_bent⟩)
    (hc_law_bent : PySem.W.codeIn K cd_law_bent "_law_bent" = true)
    (k_law_bent : PySem.W.keepIn K (.ref f_law_bent) = true)
    (a_law_drawn : PySem.W.nsIn K mainGlobals "_law_drawn" = some (some (.ref f_law_drawn)))
    (l_law_drawn : K.lookup f_law_drawn = some ⟨oc_law_drawn, od_law_drawn, .func (PySem.W.fnOf "_law_drawn" "_law_drawn" (defArgs s_law_drawn) (defBody s_law_drawn) (defScope s_law_drawn) .none kV_law_drawn dc_law_drawn pm_law_drawn an_law_drawn cd_law_drawn ct_law_drawn), osl_law_drawn⟩)
    (hc_law_drawn : PySem.W.codeIn K cd_law_drawn "_law_drawn" = true)
    (k_law_drawn : PySem.W.keepIn K (.ref f_law_drawn) = true)
    (a_law : PySem.W.nsIn K mainGlobals "law" = some (some (.ref f_law)))
    (l_law : K.lookup f_law = some ⟨oc_law, od_law, .func (PySem.W.fnOf "law" "law" (defArgs s_law) (defBody s_law) (defScope s_law) .none kV_law dc_law pm_law an_law cd_law ct_law), osl_law⟩)
    (hc_law : PySem.W.codeIn K cd_law "law" = true)
    (k_law : PySem.W.keepIn K (.ref f_law) = true)
    (cs_BLANK : PySem.W.nsIn K mainGlobals "BLANK" = some (some (.str " " ct_BLANK)))
    (cs_STROKE : PySem.W.nsIn K mainGlobals "STROKE" = some (some (.str "/" ct_STROKE)))
    (cs_MINUS : PySem.W.nsIn K mainGlobals "MINUS" = some (some (.str "-" ct_MINUS)))
    (cs_PLUS : PySem.W.nsIn K mainGlobals "PLUS" = some (some (.str "+" ct_PLUS)))
    (cs_OF_SPEED : PySem.W.nsIn K mainGlobals "OF_SPEED" = some (some (.str "s" ct_OF_SPEED)))
    (cs_DIGITS : PySem.W.nsIn K mainGlobals "DIGITS" = some (some (.str "0123456789" ct_DIGITS)))
    (cs_MOST_DIGITS : PySem.W.nsIn K mainGlobals "MOST_DIGITS" = some (some (.int 30 ct_MOST_DIGITS)))
    (cs_THREE : PySem.W.nsIn K mainGlobals "THREE" = some (some (.int 3 ct_THREE)))
    (cs_OPENING : PySem.W.nsIn K mainGlobals "OPENING" = some (some (.ref D_OPENING)))
    (dl_OPENING : K.lookup D_OPENING = some ⟨.type "dict", none, .dict es_OPENING nn_OPENING, #[]⟩)
    (dk_OPENING : PySem.W.KeysLit w.params es_OPENING.toList)
    (de_OPENING : ∃ (h0 : _) (h1 : _) (t0 : Tok) (t1 : Tok), es_OPENING.toList = [⟨h0, .str "[" t0, .bool true⟩, ⟨h1, .str "(" t1, .bool false⟩])
    (dm_OPENING : (D_OPENING == sysModules) = false)
    (dv_OPENING_0 : PySem.W.nsIn K D_OPENING "[" = some (some (.bool true)))
    (dv_OPENING_1 : PySem.W.nsIn K D_OPENING "(" = some (some (.bool false)))
    (cs_CLOSING : PySem.W.nsIn K mainGlobals "CLOSING" = some (some (.ref D_CLOSING)))
    (dl_CLOSING : K.lookup D_CLOSING = some ⟨.type "dict", none, .dict es_CLOSING nn_CLOSING, #[]⟩)
    (dk_CLOSING : PySem.W.KeysLit w.params es_CLOSING.toList)
    (de_CLOSING : ∃ (h0 : _) (h1 : _) (t0 : Tok) (t1 : Tok), es_CLOSING.toList = [⟨h0, .str "]" t0, .bool true⟩, ⟨h1, .str ")" t1, .bool false⟩])
    (dm_CLOSING : (D_CLOSING == sysModules) = false)
    (dv_CLOSING_0 : PySem.W.nsIn K D_CLOSING "]" = some (some (.bool true)))
    (dv_CLOSING_1 : PySem.W.nsIn K D_CLOSING ")" = some (some (.bool false)))
    (z_isinstance : PySem.W.nsIn K mainGlobals "isinstance" = some none)
    (z_int : PySem.W.nsIn K mainGlobals "int" = some none)
    (z_bool : PySem.W.nsIn K mainGlobals "bool" = some none)
    (z_abs : PySem.W.nsIn K mainGlobals "abs" = some none)
    (z_len : PySem.W.nsIn K mainGlobals "len" = some none)
    (z_max : PySem.W.nsIn K mainGlobals "max" = some none)
    (z_min : PySem.W.nsIn K mainGlobals "min" = some none)
    (z_range : PySem.W.nsIn K mainGlobals "range" = some none)
    (z_all : PySem.W.nsIn K mainGlobals "all" = some none)
    (z_str : PySem.W.nsIn K mainGlobals "str" = some none)
    (kit_NumNum : PySem.W.kitOne K (.ref c_Number) (.ref c_Number) = some true)
    (kit_LinLin : PySem.W.kitOne K (.ref c_Line) (.ref c_Line) = some true)
    (kit_StrStr : PySem.W.kitOne K (.ref c_Stretch) (.ref c_Stretch) = some true)
    (kit_blbl : PySem.W.kitOne K (.type "bool") (.type "bool") = some true)
    (kit_BT : PySem.W.kitOne K (.ref c_BadText) (.ref c_BadText) = some true)
    (kit_strstr : PySem.W.kitOne K (.type "str") (.type "str") = some true)
    (kit_nonstr : PySem.W.kitOne K (.type "NoneType") (.type "str") = some false)
    (kit_nonbl : PySem.W.kitOne K (.type "NoneType") (.type "bool") = some false)
    (kit_blstr : PySem.W.kitOne K (.type "bool") (.type "str") = some false)
    (kit_intstr : PySem.W.kitOne K (.type "int") (.type "str") = some false)
    (kit_intbl : PySem.W.kitOne K (.type "int") (.type "bool") = some false)
    (kit_tupstr : PySem.W.kitOne K (.type "tuple") (.type "str") = some false)
    (kit_tupbl : PySem.W.kitOne K (.type "tuple") (.type "bool") = some false)
    (kit_lststr : PySem.W.kitOne K (.type "list") (.type "str") = some false)
    (kit_lstbl : PySem.W.kitOne K (.type "list") (.type "bool") = some false)
    (kit_dctstr : PySem.W.kitOne K (.type "dict") (.type "str") = some false)
    (kit_dctbl : PySem.W.kitOne K (.type "dict") (.type "bool") = some false)
    (kit_strbl : PySem.W.kitOne K (.type "str") (.type "bool") = some false)
    : ∃ A : Ad, A.f_law = f_law ∧ TxtW w K mg A :=
  ⟨⟨c_SpeedError, c_BadStretch, c_BadText, c_Number, c_Line, c_Stretch, f_BadStretch_init, (PySem.W.ksFn "__init__" "BadStretch.__init__" (defArgs s_BadStretch_init) (defBody s_BadStretch_init) (defScope s_BadStretch_init) .none kV_BadStretch dc_BadStretch pm_BadStretch an_BadStretch (.ref cda_BadStretch) ct_BadStretch cc_BadStretch), f_BadText_init, (PySem.W.ksFn "__init__" "BadText.__init__" (defArgs s_BadText_init) (defBody s_BadText_init) (defScope s_BadText_init) .none kV_BadText dc_BadText pm_BadText an_BadText (.ref cda_BadText) ct_BadText cc_BadText), f_is_integer, (PySem.W.fnOf "is_integer" "is_integer" (defArgs s_is_integer) (defBody s_is_integer) (defScope s_is_integer) .none kV_is_integer dc_is_integer pm_is_integer an_is_integer cd_is_integer ct_is_integer), f_shared_divisor, (PySem.W.fnOf "shared_divisor" "shared_divisor" (defArgs s_shared_divisor) (defBody s_shared_divisor) (defScope s_shared_divisor) .none kV_shared_divisor dc_shared_divisor pm_shared_divisor an_shared_divisor cd_shared_divisor ct_shared_divisor), f_Number_init, (PySem.W.fnOf "__init__" "Number.__init__" (defArgs s_Number_init) (defBody s_Number_init) (defScope s_Number_init) (.ref T_Number_init) kV_Number_init dc_Number_init pm_Number_init an_Number_init cd_Number_init ct_Number_init), f_Number_top, (PySem.W.fnOf "top" "Number.top" (defArgs s_Number_top) (defBody s_Number_top) (defScope s_Number_top) .none kV_Number_top dc_Number_top pm_Number_top an_Number_top cd_Number_top ct_Number_top), p_Number_top, f_Number_bottom, (PySem.W.fnOf "bottom" "Number.bottom" (defArgs s_Number_bottom) (defBody s_Number_bottom) (defScope s_Number_bottom) .none kV_Number_bottom dc_Number_bottom pm_Number_bottom an_Number_bottom cd_Number_bottom ct_Number_bottom), p_Number_bottom, f_Number_eq, (PySem.W.fnOf "__eq__" "Number.__eq__" (defArgs s_Number_eq) (defBody s_Number_eq) (defScope s_Number_eq) .none kV_Number_eq dc_Number_eq pm_Number_eq an_Number_eq cd_Number_eq ct_Number_eq), f_Number_is_less, (PySem.W.fnOf "is_less" "Number.is_less" (defArgs s_Number_is_less) (defBody s_Number_is_less) (defScope s_Number_is_less) .none kV_Number_is_less dc_Number_is_less pm_Number_is_less an_Number_is_less cd_Number_is_less ct_Number_is_less), f_Number_add, (PySem.W.fnOf "__add__" "Number.__add__" (defArgs s_Number_add) (defBody s_Number_add) (defScope s_Number_add) .none kV_Number_add dc_Number_add pm_Number_add an_Number_add cd_Number_add ct_Number_add), f_Number_sub, (PySem.W.fnOf "__sub__" "Number.__sub__" (defArgs s_Number_sub) (defBody s_Number_sub) (defScope s_Number_sub) .none kV_Number_sub dc_Number_sub pm_Number_sub an_Number_sub cd_Number_sub ct_Number_sub), f_Number_divided_by, (PySem.W.fnOf "divided_by" "Number.divided_by" (defArgs s_Number_divided_by) (defBody s_Number_divided_by) (defScope s_Number_divided_by) .none kV_Number_divided_by dc_Number_divided_by pm_Number_divided_by an_Number_divided_by cd_Number_divided_by ct_Number_divided_by), f_Number_neg, (PySem.W.fnOf "__neg__" "Number.__neg__" (defArgs s_Number_neg) (defBody s_Number_neg) (defScope s_Number_neg) .none kV_Number_neg dc_Number_neg pm_Number_neg an_Number_neg cd_Number_neg ct_Number_neg), f_Number_abs, (PySem.W.fnOf "__abs__" "Number.__abs__" (defArgs s_Number_abs) (defBody s_Number_abs) (defScope s_Number_abs) .none kV_Number_abs dc_Number_abs pm_Number_abs an_Number_abs cd_Number_abs ct_Number_abs), f_Number_bool, (PySem.W.fnOf "__bool__" "Number.__bool__" (defArgs s_Number_bool) (defBody s_Number_bool) (defScope s_Number_bool) .none kV_Number_bool dc_Number_bool pm_Number_bool an_Number_bool cd_Number_bool ct_Number_bool), f_whole, (PySem.W.fnOf "whole" "whole" (defArgs s_whole) (defBody s_whole) (defScope s_whole) .none kV_whole dc_whole pm_whole an_whole cd_whole ct_whole), f_Line_init, (PySem.W.fnOf "__init__" "Line.__init__" (defArgs s_Line_init) (defBody s_Line_init) (defScope s_Line_init) .none kV_Line_init dc_Line_init pm_Line_init an_Line_init cd_Line_init ct_Line_init), f_Line_base, (PySem.W.fnOf "base" "Line.base" (defArgs s_Line_base) (defBody s_Line_base) (defScope s_Line_base) .none kV_Line_base dc_Line_base pm_Line_base an_Line_base cd_Line_base ct_Line_base), p_Line_base, f_Line_slope, (PySem.W.fnOf "slope" "Line.slope" (defArgs s_Line_slope) (defBody s_Line_slope) (defScope s_Line_slope) .none kV_Line_slope dc_Line_slope pm_Line_slope an_Line_slope cd_Line_slope ct_Line_slope), p_Line_slope, f_Stretch_init, (PySem.W.fnOf "__init__" "Stretch.__init__" (defArgs s_Stretch_init) (defBody s_Stretch_init) (defScope s_Stretch_init) .none (.ref D_Stretch_init) dc_Stretch_init pm_Stretch_init an_Stretch_init cd_Stretch_init ct_Stretch_init), f_Stretch_low, (PySem.W.fnOf "low" "Stretch.low" (defArgs s_Stretch_low) (defBody s_Stretch_low) (defScope s_Stretch_low) .none kV_Stretch_low dc_Stretch_low pm_Stretch_low an_Stretch_low cd_Stretch_low ct_Stretch_low), p_Stretch_low, f_Stretch_high, (PySem.W.fnOf "high" "Stretch.high" (defArgs s_Stretch_high) (defBody s_Stretch_high) (defScope s_Stretch_high) .none kV_Stretch_high dc_Stretch_high pm_Stretch_high an_Stretch_high cd_Stretch_high ct_Stretch_high), p_Stretch_high, f_Stretch_has_low, (PySem.W.fnOf "has_low" "Stretch.has_low" (defArgs s_Stretch_has_low) (defBody s_Stretch_has_low) (defScope s_Stretch_has_low) .none kV_Stretch_has_low dc_Stretch_has_low pm_Stretch_has_low an_Stretch_has_low cd_Stretch_has_low ct_Stretch_has_low), p_Stretch_has_low, f_Stretch_has_high, (PySem.W.fnOf "has_high" "Stretch.has_high" (defArgs s_Stretch_has_high) (defBody s_Stretch_has_high) (defScope s_Stretch_has_high) .none kV_Stretch_has_high dc_Stretch_has_high pm_Stretch_has_high an_Stretch_has_high cd_Stretch_has_high ct_Stretch_has_high), p_Stretch_has_high, f_show_number, (PySem.W.fnOf "show_number" "show_number" (defArgs s_show_number) (defBody s_show_number) (defScope s_show_number) .none kV_show_number dc_show_number pm_show_number an_show_number cd_show_number ct_show_number), f_show_line, (PySem.W.fnOf "show_line" "show_line" (defArgs s_show_line) (defBody s_show_line) (defScope s_show_line) .none kV_show_line dc_show_line pm_show_line an_show_line cd_show_line ct_show_line), f_show_stretch, (PySem.W.fnOf "show_stretch" "show_stretch" (defArgs s_show_stretch) (defBody s_show_stretch) (defScope s_show_stretch) .none kV_show_stretch dc_show_stretch pm_show_stretch an_show_stretch cd_show_stretch ct_show_stretch), f_digits_in, (PySem.W.fnOf "digits_in" "digits_in" (defArgs s_digits_in) (defBody s_digits_in) (defScope s_digits_in) .none kV_digits_in dc_digits_in pm_digits_in an_digits_in cd_digits_in ct_digits_in), f_number_in, (PySem.W.fnOf "number_in" "number_in" (defArgs s_number_in) (defBody s_number_in) (defScope s_number_in) .none kV_number_in dc_number_in pm_number_in an_number_in cd_number_in ct_number_in), f_slope_in, (PySem.W.fnOf "slope_in" "slope_in" (defArgs s_slope_in) (defBody s_slope_in) (defScope s_slope_in) .none kV_slope_in dc_slope_in pm_slope_in an_slope_in cd_slope_in ct_slope_in), f_line_in, (PySem.W.fnOf "line_in" "line_in" (defArgs s_line_in) (defBody s_line_in) (defScope s_line_in) .none kV_line_in dc_line_in pm_line_in an_line_in cd_line_in ct_line_in), f_stretch_in, (PySem.W.fnOf "stretch_in" "stretch_in" (defArgs s_stretch_in) (defBody s_stretch_in) (defScope s_stretch_in) .none kV_stretch_in dc_stretch_in pm_stretch_in an_stretch_in cd_stretch_in ct_stretch_in), f_read_by, (PySem.W.fnOf "read_by" "read_by" (defArgs s_read_by) (defBody s_read_by) (defScope s_read_by) .none kV_read_by dc_read_by pm_read_by an_read_by cd_read_by ct_read_by), f_read_number, (PySem.W.fnOf "read_number" "read_number" (defArgs s_read_number) (defBody s_read_number) (defScope s_read_number) .none kV_read_number dc_read_number pm_read_number an_read_number cd_read_number ct_read_number), f_read_line, (PySem.W.fnOf "read_line" "read_line" (defArgs s_read_line) (defBody s_read_line) (defScope s_read_line) .none kV_read_line dc_read_line pm_read_line an_read_line cd_read_line ct_read_line), f_read_stretch, (PySem.W.fnOf "read_stretch" "read_stretch" (defArgs s_read_stretch) (defBody s_read_stretch) (defScope s_read_stretch) .none kV_read_stretch dc_read_stretch pm_read_stretch an_read_stretch cd_read_stretch ct_read_stretch), f_law_pot, (PySem.W.fnOf "_law_pot" "_law_pot" (defArgs s_law_pot) (defBody s_law_pot) (defScope s_law_pot) .none kV_law_pot dc_law_pot pm_law_pot an_law_pot cd_law_pot ct_law_pot), f_law_take, (PySem.W.fnOf "_law_take" "_law_take" (defArgs s_law_take) (defBody s_law_take) (defScope s_law_take) .none kV_law_take dc_law_take pm_law_take an_law_take cd_law_take ct_law_take), f_law_of, (PySem.W.fnOf "_law_of" "_law_of" (defArgs s_law_of) (defBody s_law_of) (defScope s_law_of) .none kV_law_of dc_law_of pm_law_of an_law_of cd_law_of ct_law_of), f_law_digits, (PySem.W.fnOf "_law_digits" "_law_digits" (defArgs s_law_digits) (defBody s_law_digits) (defScope s_law_digits) .none kV_law_digits dc_law_digits pm_law_digits an_law_digits cd_law_digits ct_law_digits), f_law_lowest, (PySem.W.fnOf "_law_lowest" "_law_lowest" (defArgs s_law_lowest) (defBody s_law_lowest) (defScope s_law_lowest) .none kV_law_lowest dc_law_lowest pm_law_lowest an_law_lowest cd_law_lowest ct_law_lowest), f_law_pair, (PySem.W.fnOf "_law_pair" "_law_pair" (defArgs s_law_pair) (defBody s_law_pair) (defScope s_law_pair) .none kV_law_pair dc_law_pair pm_law_pair an_law_pair cd_law_pair ct_law_pair), f_law_number_text, (PySem.W.fnOf "_law_number_text" "_law_number_text" (defArgs s_law_number_text) (defBody s_law_number_text) (defScope s_law_number_text) .none kV_law_number_text dc_law_number_text pm_law_number_text an_law_number_text cd_law_number_text ct_law_number_text), f_law_line_text, (PySem.W.fnOf "_law_line_text" "_law_line_text" (defArgs s_law_line_text) (defBody s_law_line_text) (defScope s_law_line_text) .none kV_law_line_text dc_law_line_text pm_law_line_text an_law_line_text cd_law_line_text ct_law_line_text), f_law_is_digits, (PySem.W.fnOf "_law_is_digits" "_law_is_digits" (defArgs s_law_is_digits) (defBody s_law_is_digits) (defScope s_law_is_digits) .none kV_law_is_digits dc_law_is_digits pm_law_is_digits an_law_is_digits cd_law_is_digits ct_law_is_digits), f_law_number_of, (PySem.W.fnOf "_law_number_of" "_law_number_of" (defArgs s_law_number_of) (defBody s_law_number_of) (defScope s_law_number_of) .none kV_law_number_of dc_law_number_of pm_law_number_of an_law_number_of cd_law_number_of ct_law_number_of), f_law_is_line, (PySem.W.fnOf "_law_is_line" "_law_is_line" (defArgs s_law_is_line) (defBody s_law_is_line) (defScope s_law_is_line) .none kV_law_is_line dc_law_is_line pm_law_is_line an_law_is_line cd_law_is_line ct_law_is_line), f_law_is_stretch, (PySem.W.fnOf "_law_is_stretch" "_law_is_stretch" (defArgs s_law_is_stretch) (defBody s_law_is_stretch) (defScope s_law_is_stretch) .none kV_law_is_stretch dc_law_is_stretch pm_law_is_stretch an_law_is_stretch cd_law_is_stretch ct_law_is_stretch), f_law_due, (PySem.W.fnOf "_law_due" "_law_due" (defArgs s_law_due) (defBody s_law_due) (defScope s_law_due) .none kV_law_due dc_law_due pm_law_due an_law_due cd_law_due ct_law_due), f_law_read, (PySem.W.fnOf "_law_read" "_law_read" (defArgs s_law_read) (defBody s_law_read) (defScope s_law_read) .none kV_law_read dc_law_read pm_law_read an_law_read cd_law_read ct_law_read), f_law_is_right, (PySem.W.fnOf "_law_is_right" "_law_is_right" (defArgs s_law_is_right) (defBody s_law_is_right) (defScope s_law_is_right) .none kV_law_is_right dc_law_is_right pm_law_is_right an_law_is_right cd_law_is_right ct_law_is_right), f_law_bent, (PySem.W.fnOf "_law_bent" "_law_bent" (defArgs s_law_bent) (defBody s_law_bent) (defScope s_law_bent) .none kV_law_bent dc_law_bent pm_law_bent an_law_bent cd_law_bent ct_law_bent), f_law_drawn, (PySem.W.fnOf "_law_drawn" "_law_drawn" (defArgs s_law_drawn) (defBody s_law_drawn) (defScope s_law_drawn) .none kV_law_drawn dc_law_drawn pm_law_drawn an_law_drawn cd_law_drawn ct_law_drawn), f_law, (PySem.W.fnOf "law" "law" (defArgs s_law) (defBody s_law) (defScope s_law) .none kV_law dc_law pm_law an_law cd_law ct_law), D_OPENING, es_OPENING, nn_OPENING, D_CLOSING, es_CLOSING, nn_CLOSING⟩, rfl, ⟨{
    g_SpeedError := PySem.W.mg_of X G a_SpeedError,
    g_BadStretch := PySem.W.mg_of X G a_BadStretch,
    g_BadText := PySem.W.mg_of X G a_BadText,
    g_Number := PySem.W.mg_of X G a_Number,
    cl_Number := ⟨pg_Number, hd_Number, po_Number, sa_Number⟩,
    M_Number := ⟨mk_Number, a_Number_init, i_Number_init, kc_Number⟩,
    sf_Number := sf_Number,
    ca_Number := ca_Number,
    cm_Number := cm_Number,
    n_Number_own_top := n_Number_own_top,
    n_Number_own_bottom := n_Number_own_bottom,
    g_Line := PySem.W.mg_of X G a_Line,
    cl_Line := ⟨pg_Line, hd_Line, po_Line, sa_Line⟩,
    M_Line := ⟨mk_Line, a_Line_init, i_Line_init, kc_Line⟩,
    sf_Line := sf_Line,
    ca_Line := ca_Line,
    cm_Line := cm_Line,
    n_Line_own_base := n_Line_own_base,
    n_Line_own_slope := n_Line_own_slope,
    g_Stretch := PySem.W.mg_of X G a_Stretch,
    cl_Stretch := ⟨pg_Stretch, hd_Stretch, po_Stretch, sa_Stretch⟩,
    M_Stretch := ⟨mk_Stretch, a_Stretch_init, i_Stretch_init, kc_Stretch⟩,
    sf_Stretch := sf_Stretch,
    ca_Stretch := ca_Stretch,
    cm_Stretch := cm_Stretch,
    n_Stretch_own_low := n_Stretch_own_low,
    n_Stretch_own_high := n_Stretch_own_high,
    n_Stretch_includes_low := n_Stretch_includes_low,
    n_Stretch_includes_high := n_Stretch_includes_high,
    n_Stretch_own_middle := n_Stretch_own_middle,
    cn := cn,
    ct := ct,
    X_BadStretch := ⟨⟨_, _, _, _, _, _, _, _, _, _, _, _, _, _, _, lC_BadStretch, rv_BadStretch⟩, sa_BadStretch, ex_BadStretch, ty_BadStretch, kc_BadStretch⟩,
    C_BadStretch := ⟨⟨ga_BadStretch, gg_BadStretch, ex_BadStretch, hd_BadStretch⟩, by unfold PySem.W.clsIn; rw [lC_BadStretch] <;> rfl, ca_BadStretch, cn, ct, cm_BadStretch⟩,
    no_BadStretch := no_BadStretch,
    in_BadStretch := in_BadStretch,
    ti_BadStretch := ti_BadStretch,
    b_BadStretch_init := Binds.all fun us hl => match us, hl with | [_, _], _ => rfl,
    I_BadStretch := fun w base => ok_superInit lf_BadStretch hc_BadStretch lk_BadStretch vs_BadStretch fi_BadStretch lc_BadStretch ⟨⟨_, _, _, _, _, _, _, _, _, _, _, _, _, _, _, lC_BadStretch, rv_BadStretch⟩, sa_BadStretch, ex_BadStretch, ty_BadStretch, kc_BadStretch⟩ ms_BadStretch sv_BadStretch sp_BadStretch tp_any no_BadStretch (PySem.W.mg_none_of X G z_super) (by decide +kernel) (by decide +kernel) rfl rfl rfl rfl rfl rfl (by decide +kernel) rfl rfl rfl (by decide +kernel) (fun _ => rfl) (fun _ => rfl) (fun _ => rfl) (fun _ => rfl),
    em_BadStretch_SpeedError := exm_mk sb_SpeedError ic_SpeedError tt_SpeedError su_BadStretch_SpeedError,
    em_BadStretch_BadStretch := exm_mk sb_BadStretch ic_BadStretch tt_BadStretch su_BadStretch_BadStretch,
    X_BadText := ⟨⟨_, _, _, _, _, _, _, _, _, _, _, _, _, _, _, lC_BadText, rv_BadText⟩, sa_BadText, ex_BadText, ty_BadText, kc_BadText⟩,
    C_BadText := ⟨⟨ga_BadText, gg_BadText, ex_BadText, hd_BadText⟩, by unfold PySem.W.clsIn; rw [lC_BadText] <;> rfl, ca_BadText, cn, ct, cm_BadText⟩,
    no_BadText := no_BadText,
    in_BadText := in_BadText,
    ti_BadText := ti_BadText,
    b_BadText_init := Binds.all fun us hl => match us, hl with | [_, _], _ => rfl,
    I_BadText := fun w base => ok_superInit lf_BadText hc_BadText lk_BadText vs_BadText fi_BadText lc_BadText ⟨⟨_, _, _, _, _, _, _, _, _, _, _, _, _, _, _, lC_BadText, rv_BadText⟩, sa_BadText, ex_BadText, ty_BadText, kc_BadText⟩ ms_BadText sv_BadText sp_BadText tp_any no_BadText (PySem.W.mg_none_of X G z_super) (by decide +kernel) (by decide +kernel) rfl rfl rfl rfl rfl rfl (by decide +kernel) rfl rfl rfl (by decide +kernel) (fun _ => rfl) (fun _ => rfl) (fun _ => rfl) (fun _ => rfl),
    em_BadText_SpeedError := exm_mk sb_SpeedError ic_SpeedError tt_SpeedError su_BadText_SpeedError,
    g_is_integer := PySem.W.mg_of X G a_is_integer,
    F_is_integer := fun_mk (st := s_is_integer) l_is_integer hc_is_integer k_is_integer,
    b_is_integer := (fun_mk (st := s_is_integer) l_is_integer hc_is_integer k_is_integer).binds (ps := ["value"]) fun _ _ _ _ _ _ us hl => match us, hl with | [_], _ => rfl,
    g_shared_divisor := PySem.W.mg_of X G a_shared_divisor,
    F_shared_divisor := fun_mk (st := s_shared_divisor) l_shared_divisor hc_shared_divisor k_shared_divisor,
    b_shared_divisor := (fun_mk (st := s_shared_divisor) l_shared_divisor hc_shared_divisor k_shared_divisor).binds (ps := ["one", "other"]) fun _ _ _ _ _ _ us hl => match us, hl with | [_, _], _ => rfl,
    m_Number_init := ⟨a_Number_init, i_Number_init, k_Number_init⟩,
    F_Number_init := ⟨⟨_, _, _, _, _, _, _, _, _, _, rfl, l_Number_init, hc_Number_init, Or.inr ⟨by simp, _, _, [.int 1 t_Number_init_0], _, rfl, lT_Number_init, rfl, .cons ⟨_, rfl⟩ (.nil)⟩, Or.inl rfl⟩, k_Number_init⟩,
    P_Number_top := ⟨at_Number_top, gt_Number_top, tk_Number_top, ⟨_, rc_Number_top⟩⟩,
    F_Number_top := fun_mk (st := s_Number_top) l_Number_top hc_Number_top k_Number_top,
    b_Number_top := (fun_mk (st := s_Number_top) l_Number_top hc_Number_top k_Number_top).binds (ps := ["self"]) fun _ _ _ _ _ _ us hl => match us, hl with | [_], _ => rfl,
    P_Number_bottom := ⟨at_Number_bottom, gt_Number_bottom, tk_Number_bottom, ⟨_, rc_Number_bottom⟩⟩,
    F_Number_bottom := fun_mk (st := s_Number_bottom) l_Number_bottom hc_Number_bottom k_Number_bottom,
    b_Number_bottom := (fun_mk (st := s_Number_bottom) l_Number_bottom hc_Number_bottom k_Number_bottom).binds (ps := ["self"]) fun _ _ _ _ _ _ us hl => match us, hl with | [_], _ => rfl,
    m_Number_eq := ⟨a_Number_eq, i_Number_eq, k_Number_eq⟩,
    F_Number_eq := fun_mk (st := s_Number_eq) l_Number_eq hc_Number_eq k_Number_eq,
    b_Number_eq := (fun_mk (st := s_Number_eq) l_Number_eq hc_Number_eq k_Number_eq).binds (ps := ["self", "other"]) fun _ _ _ _ _ _ us hl => match us, hl with | [_, _], _ => rfl,
    m_Number_is_less := ⟨a_Number_is_less, i_Number_is_less, k_Number_is_less⟩,
    F_Number_is_less := fun_mk (st := s_Number_is_less) l_Number_is_less hc_Number_is_less k_Number_is_less,
    b_Number_is_less := (fun_mk (st := s_Number_is_less) l_Number_is_less hc_Number_is_less k_Number_is_less).binds (ps := ["self", "other"]) fun _ _ _ _ _ _ us hl => match us, hl with | [_, _], _ => rfl,
    m_Number_add := ⟨a_Number_add, i_Number_add, k_Number_add⟩,
    F_Number_add := fun_mk (st := s_Number_add) l_Number_add hc_Number_add k_Number_add,
    b_Number_add := (fun_mk (st := s_Number_add) l_Number_add hc_Number_add k_Number_add).binds (ps := ["self", "other"]) fun _ _ _ _ _ _ us hl => match us, hl with | [_, _], _ => rfl,
    m_Number_sub := ⟨a_Number_sub, i_Number_sub, k_Number_sub⟩,
    F_Number_sub := fun_mk (st := s_Number_sub) l_Number_sub hc_Number_sub k_Number_sub,
    b_Number_sub := (fun_mk (st := s_Number_sub) l_Number_sub hc_Number_sub k_Number_sub).binds (ps := ["self", "other"]) fun _ _ _ _ _ _ us hl => match us, hl with | [_, _], _ => rfl,
    m_Number_divided_by := ⟨a_Number_divided_by, i_Number_divided_by, k_Number_divided_by⟩,
    F_Number_divided_by := fun_mk (st := s_Number_divided_by) l_Number_divided_by hc_Number_divided_by k_Number_divided_by,
    b_Number_divided_by := (fun_mk (st := s_Number_divided_by) l_Number_divided_by hc_Number_divided_by k_Number_divided_by).binds (ps := ["self", "other"]) fun _ _ _ _ _ _ us hl => match us, hl with | [_, _], _ => rfl,
    m_Number_neg := ⟨a_Number_neg, i_Number_neg, k_Number_neg⟩,
    F_Number_neg := fun_mk (st := s_Number_neg) l_Number_neg hc_Number_neg k_Number_neg,
    b_Number_neg := (fun_mk (st := s_Number_neg) l_Number_neg hc_Number_neg k_Number_neg).binds (ps := ["self"]) fun _ _ _ _ _ _ us hl => match us, hl with | [_], _ => rfl,
    m_Number_abs := ⟨a_Number_abs, i_Number_abs, k_Number_abs⟩,
    F_Number_abs := fun_mk (st := s_Number_abs) l_Number_abs hc_Number_abs k_Number_abs,
    b_Number_abs := (fun_mk (st := s_Number_abs) l_Number_abs hc_Number_abs k_Number_abs).binds (ps := ["self"]) fun _ _ _ _ _ _ us hl => match us, hl with | [_], _ => rfl,
    m_Number_bool := ⟨a_Number_bool, i_Number_bool, k_Number_bool⟩,
    F_Number_bool := fun_mk (st := s_Number_bool) l_Number_bool hc_Number_bool k_Number_bool,
    b_Number_bool := (fun_mk (st := s_Number_bool) l_Number_bool hc_Number_bool k_Number_bool).binds (ps := ["self"]) fun _ _ _ _ _ _ us hl => match us, hl with | [_], _ => rfl,
    g_whole := PySem.W.mg_of X G a_whole,
    F_whole := fun_mk (st := s_whole) l_whole hc_whole k_whole,
    b_whole := (fun_mk (st := s_whole) l_whole hc_whole k_whole).binds (ps := ["count"]) fun _ _ _ _ _ _ us hl => match us, hl with | [_], _ => rfl,
    m_Line_init := ⟨a_Line_init, i_Line_init, k_Line_init⟩,
    F_Line_init := fun_mk (st := s_Line_init) l_Line_init hc_Line_init k_Line_init,
    b_Line_init := (fun_mk (st := s_Line_init) l_Line_init hc_Line_init k_Line_init).binds (ps := ["self", "base", "slope"]) fun _ _ _ _ _ _ us hl => match us, hl with | [_, _, _], _ => rfl,
    P_Line_base := ⟨at_Line_base, gt_Line_base, tk_Line_base, ⟨_, rc_Line_base⟩⟩,
    F_Line_base := fun_mk (st := s_Line_base) l_Line_base hc_Line_base k_Line_base,
    b_Line_base := (fun_mk (st := s_Line_base) l_Line_base hc_Line_base k_Line_base).binds (ps := ["self"]) fun _ _ _ _ _ _ us hl => match us, hl with | [_], _ => rfl,
    P_Line_slope := ⟨at_Line_slope, gt_Line_slope, tk_Line_slope, ⟨_, rc_Line_slope⟩⟩,
    F_Line_slope := fun_mk (st := s_Line_slope) l_Line_slope hc_Line_slope k_Line_slope,
    b_Line_slope := (fun_mk (st := s_Line_slope) l_Line_slope hc_Line_slope k_Line_slope).binds (ps := ["self"]) fun _ _ _ _ _ _ us hl => match us, hl with | [_], _ => rfl,
    m_Stretch_init := ⟨a_Stretch_init, i_Stretch_init, k_Stretch_init⟩,
    F_Stretch_init := ⟨⟨_, _, _, _, _, _, _, _, _, _, rfl, l_Stretch_init, hc_Stretch_init, Or.inl ⟨rfl, rfl⟩, Or.inr ⟨D_Stretch_init, rfl, fun q hq => by
      simp only [List.mem_cons, List.not_mem_nil, or_false] at hq
      rcases hq with rfl | rfl
      · exact ⟨_, kw_Stretch_init_has_low, rfl⟩
      · exact ⟨_, kw_Stretch_init_has_high, rfl⟩⟩⟩, k_Stretch_init⟩,
    P_Stretch_low := ⟨at_Stretch_low, gt_Stretch_low, tk_Stretch_low, ⟨_, rc_Stretch_low⟩⟩,
    F_Stretch_low := fun_mk (st := s_Stretch_low) l_Stretch_low hc_Stretch_low k_Stretch_low,
    b_Stretch_low := (fun_mk (st := s_Stretch_low) l_Stretch_low hc_Stretch_low k_Stretch_low).binds (ps := ["self"]) fun _ _ _ _ _ _ us hl => match us, hl with | [_], _ => rfl,
    P_Stretch_high := ⟨at_Stretch_high, gt_Stretch_high, tk_Stretch_high, ⟨_, rc_Stretch_high⟩⟩,
    F_Stretch_high := fun_mk (st := s_Stretch_high) l_Stretch_high hc_Stretch_high k_Stretch_high,
    b_Stretch_high := (fun_mk (st := s_Stretch_high) l_Stretch_high hc_Stretch_high k_Stretch_high).binds (ps := ["self"]) fun _ _ _ _ _ _ us hl => match us, hl with | [_], _ => rfl,
    P_Stretch_has_low := ⟨at_Stretch_has_low, gt_Stretch_has_low, tk_Stretch_has_low, ⟨_, rc_Stretch_has_low⟩⟩,
    F_Stretch_has_low := fun_mk (st := s_Stretch_has_low) l_Stretch_has_low hc_Stretch_has_low k_Stretch_has_low,
    b_Stretch_has_low := (fun_mk (st := s_Stretch_has_low) l_Stretch_has_low hc_Stretch_has_low k_Stretch_has_low).binds (ps := ["self"]) fun _ _ _ _ _ _ us hl => match us, hl with | [_], _ => rfl,
    P_Stretch_has_high := ⟨at_Stretch_has_high, gt_Stretch_has_high, tk_Stretch_has_high, ⟨_, rc_Stretch_has_high⟩⟩,
    F_Stretch_has_high := fun_mk (st := s_Stretch_has_high) l_Stretch_has_high hc_Stretch_has_high k_Stretch_has_high,
    b_Stretch_has_high := (fun_mk (st := s_Stretch_has_high) l_Stretch_has_high hc_Stretch_has_high k_Stretch_has_high).binds (ps := ["self"]) fun _ _ _ _ _ _ us hl => match us, hl with | [_], _ => rfl,
    g_show_number := PySem.W.mg_of X G a_show_number,
    F_show_number := fun_mk (st := s_show_number) l_show_number hc_show_number k_show_number,
    b_show_number := (fun_mk (st := s_show_number) l_show_number hc_show_number k_show_number).binds (ps := ["number"]) fun _ _ _ _ _ _ us hl => match us, hl with | [_], _ => rfl,
    g_show_line := PySem.W.mg_of X G a_show_line,
    F_show_line := fun_mk (st := s_show_line) l_show_line hc_show_line k_show_line,
    b_show_line := (fun_mk (st := s_show_line) l_show_line hc_show_line k_show_line).binds (ps := ["line"]) fun _ _ _ _ _ _ us hl => match us, hl with | [_], _ => rfl,
    g_show_stretch := PySem.W.mg_of X G a_show_stretch,
    F_show_stretch := fun_mk (st := s_show_stretch) l_show_stretch hc_show_stretch k_show_stretch,
    b_show_stretch := (fun_mk (st := s_show_stretch) l_show_stretch hc_show_stretch k_show_stretch).binds (ps := ["stretch"]) fun _ _ _ _ _ _ us hl => match us, hl with | [_], _ => rfl,
    g_digits_in := PySem.W.mg_of X G a_digits_in,
    F_digits_in := fun_mk (st := s_digits_in) l_digits_in hc_digits_in k_digits_in,
    b_digits_in := (fun_mk (st := s_digits_in) l_digits_in hc_digits_in k_digits_in).binds (ps := ["word"]) fun _ _ _ _ _ _ us hl => match us, hl with | [_], _ => rfl,
    g_number_in := PySem.W.mg_of X G a_number_in,
    F_number_in := fun_mk (st := s_number_in) l_number_in hc_number_in k_number_in,
    b_number_in := (fun_mk (st := s_number_in) l_number_in hc_number_in k_number_in).binds (ps := ["word"]) fun _ _ _ _ _ _ us hl => match us, hl with | [_], _ => rfl,
    g_slope_in := PySem.W.mg_of X G a_slope_in,
    F_slope_in := fun_mk (st := s_slope_in) l_slope_in hc_slope_in k_slope_in,
    b_slope_in := (fun_mk (st := s_slope_in) l_slope_in hc_slope_in k_slope_in).binds (ps := ["word"]) fun _ _ _ _ _ _ us hl => match us, hl with | [_], _ => rfl,
    g_line_in := PySem.W.mg_of X G a_line_in,
    F_line_in := fun_mk (st := s_line_in) l_line_in hc_line_in k_line_in,
    b_line_in := (fun_mk (st := s_line_in) l_line_in hc_line_in k_line_in).binds (ps := ["text"]) fun _ _ _ _ _ _ us hl => match us, hl with | [_], _ => rfl,
    g_stretch_in := PySem.W.mg_of X G a_stretch_in,
    F_stretch_in := fun_mk (st := s_stretch_in) l_stretch_in hc_stretch_in k_stretch_in,
    b_stretch_in := (fun_mk (st := s_stretch_in) l_stretch_in hc_stretch_in k_stretch_in).binds (ps := ["text"]) fun _ _ _ _ _ _ us hl => match us, hl with | [_], _ => rfl,
    g_read_by := PySem.W.mg_of X G a_read_by,
    F_read_by := fun_mk (st := s_read_by) l_read_by hc_read_by k_read_by,
    b_read_by := (fun_mk (st := s_read_by) l_read_by hc_read_by k_read_by).binds (ps := ["reader", "text"]) fun _ _ _ _ _ _ us hl => match us, hl with | [_, _], _ => rfl,
    g_read_number := PySem.W.mg_of X G a_read_number,
    F_read_number := fun_mk (st := s_read_number) l_read_number hc_read_number k_read_number,
    b_read_number := (fun_mk (st := s_read_number) l_read_number hc_read_number k_read_number).binds (ps := ["text"]) fun _ _ _ _ _ _ us hl => match us, hl with | [_], _ => rfl,
    g_read_line := PySem.W.mg_of X G a_read_line,
    F_read_line := fun_mk (st := s_read_line) l_read_line hc_read_line k_read_line,
    b_read_line := (fun_mk (st := s_read_line) l_read_line hc_read_line k_read_line).binds (ps := ["text"]) fun _ _ _ _ _ _ us hl => match us, hl with | [_], _ => rfl,
    g_read_stretch := PySem.W.mg_of X G a_read_stretch,
    F_read_stretch := fun_mk (st := s_read_stretch) l_read_stretch hc_read_stretch k_read_stretch,
    b_read_stretch := (fun_mk (st := s_read_stretch) l_read_stretch hc_read_stretch k_read_stretch).binds (ps := ["text"]) fun _ _ _ _ _ _ us hl => match us, hl with | [_], _ => rfl,
    g_law_pot := PySem.W.mg_of X G a_law_pot,
    F_law_pot := fun_mk (st := s_law_pot) l_law_pot hc_law_pot k_law_pot,
    b_law_pot := (fun_mk (st := s_law_pot) l_law_pot hc_law_pot k_law_pot).binds (ps := ["script", "k"]) fun _ _ _ _ _ _ us hl => match us, hl with | [_, _], _ => rfl,
    g_law_take := PySem.W.mg_of X G a_law_take,
    F_law_take := fun_mk (st := s_law_take) l_law_take hc_law_take k_law_take,
    b_law_take := (fun_mk (st := s_law_take) l_law_take hc_law_take k_law_take).binds (ps := ["pot", "upto"]) fun _ _ _ _ _ _ us hl => match us, hl with | [_, _], _ => rfl,
    g_law_of := PySem.W.mg_of X G a_law_of,
    F_law_of := fun_mk (st := s_law_of) l_law_of hc_law_of k_law_of,
    b_law_of := (fun_mk (st := s_law_of) l_law_of hc_law_of k_law_of).binds (ps := ["pot", "some"]) fun _ _ _ _ _ _ us hl => match us, hl with | [_, _], _ => rfl,
    g_law_digits := PySem.W.mg_of X G a_law_digits,
    F_law_digits := fun_mk (st := s_law_digits) l_law_digits hc_law_digits k_law_digits,
    b_law_digits := (fun_mk (st := s_law_digits) l_law_digits hc_law_digits k_law_digits).binds (ps := ["pot"]) fun _ _ _ _ _ _ us hl => match us, hl with | [_], _ => rfl,
    g_law_lowest := PySem.W.mg_of X G a_law_lowest,
    F_law_lowest := fun_mk (st := s_law_lowest) l_law_lowest hc_law_lowest k_law_lowest,
    b_law_lowest := (fun_mk (st := s_law_lowest) l_law_lowest hc_law_lowest k_law_lowest).binds (ps := ["top", "bottom"]) fun _ _ _ _ _ _ us hl => match us, hl with | [_, _], _ => rfl,
    g_law_pair := PySem.W.mg_of X G a_law_pair,
    F_law_pair := fun_mk (st := s_law_pair) l_law_pair hc_law_pair k_law_pair,
    b_law_pair := (fun_mk (st := s_law_pair) l_law_pair hc_law_pair k_law_pair).binds (ps := ["pot"]) fun _ _ _ _ _ _ us hl => match us, hl with | [_], _ => rfl,
    g_law_number_text := PySem.W.mg_of X G a_law_number_text,
    F_law_number_text := fun_mk (st := s_law_number_text) l_law_number_text hc_law_number_text k_law_number_text,
    b_law_number_text := (fun_mk (st := s_law_number_text) l_law_number_text hc_law_number_text k_law_number_text).binds (ps := ["pair"]) fun _ _ _ _ _ _ us hl => match us, hl with | [_], _ => rfl,
    g_law_line_text := PySem.W.mg_of X G a_law_line_text,
    F_law_line_text := fun_mk (st := s_law_line_text) l_law_line_text hc_law_line_text k_law_line_text,
    b_law_line_text := (fun_mk (st := s_law_line_text) l_law_line_text hc_law_line_text k_law_line_text).binds (ps := ["base", "slope"]) fun _ _ _ _ _ _ us hl => match us, hl with | [_, _], _ => rfl,
    g_law_is_digits := PySem.W.mg_of X G a_law_is_digits,
    F_law_is_digits := fun_mk (st := s_law_is_digits) l_law_is_digits hc_law_is_digits k_law_is_digits,
    b_law_is_digits := (fun_mk (st := s_law_is_digits) l_law_is_digits hc_law_is_digits k_law_is_digits).binds (ps := ["word"]) fun _ _ _ _ _ _ us hl => match us, hl with | [_], _ => rfl,
    g_law_number_of := PySem.W.mg_of X G a_law_number_of,
    F_law_number_of := fun_mk (st := s_law_number_of) l_law_number_of hc_law_number_of k_law_number_of,
    b_law_number_of := (fun_mk (st := s_law_number_of) l_law_number_of hc_law_number_of k_law_number_of).binds (ps := ["word"]) fun _ _ _ _ _ _ us hl => match us, hl with | [_], _ => rfl,
    g_law_is_line := PySem.W.mg_of X G a_law_is_line,
    F_law_is_line := fun_mk (st := s_law_is_line) l_law_is_line hc_law_is_line k_law_is_line,
    b_law_is_line := (fun_mk (st := s_law_is_line) l_law_is_line hc_law_is_line k_law_is_line).binds (ps := ["text"]) fun _ _ _ _ _ _ us hl => match us, hl with | [_], _ => rfl,
    g_law_is_stretch := PySem.W.mg_of X G a_law_is_stretch,
    F_law_is_stretch := fun_mk (st := s_law_is_stretch) l_law_is_stretch hc_law_is_stretch k_law_is_stretch,
    b_law_is_stretch := (fun_mk (st := s_law_is_stretch) l_law_is_stretch hc_law_is_stretch k_law_is_stretch).binds (ps := ["text"]) fun _ _ _ _ _ _ us hl => match us, hl with | [_], _ => rfl,
    g_law_due := PySem.W.mg_of X G a_law_due,
    F_law_due := fun_mk (st := s_law_due) l_law_due hc_law_due k_law_due,
    b_law_due := (fun_mk (st := s_law_due) l_law_due hc_law_due k_law_due).binds (ps := ["way", "value"]) fun _ _ _ _ _ _ us hl => match us, hl with | [_, _], _ => rfl,
    g_law_read := PySem.W.mg_of X G a_law_read,
    F_law_read := fun_mk (st := s_law_read) l_law_read hc_law_read k_law_read,
    b_law_read := (fun_mk (st := s_law_read) l_law_read hc_law_read k_law_read).binds (ps := ["way", "value"]) fun _ _ _ _ _ _ us hl => match us, hl with | [_, _], _ => rfl,
    g_law_is_right := PySem.W.mg_of X G a_law_is_right,
    F_law_is_right := fun_mk (st := s_law_is_right) l_law_is_right hc_law_is_right k_law_is_right,
    b_law_is_right := (fun_mk (st := s_law_is_right) l_law_is_right hc_law_is_right k_law_is_right).binds (ps := ["way", "value"]) fun _ _ _ _ _ _ us hl => match us, hl with | [_, _], _ => rfl,
    g_law_bent := PySem.W.mg_of X G a_law_bent,
    F_law_bent := fun_mk (st := s_law_bent) l_law_bent hc_law_bent k_law_bent,
    b_law_bent := (fun_mk (st := s_law_bent) l_law_bent hc_law_bent k_law_bent).binds (ps := ["pot", "text"]) fun _ _ _ _ _ _ us hl => match us, hl with | [_, _], _ => rfl,
    g_law_drawn := PySem.W.mg_of X G a_law_drawn,
    F_law_drawn := fun_mk (st := s_law_drawn) l_law_drawn hc_law_drawn k_law_drawn,
    b_law_drawn := (fun_mk (st := s_law_drawn) l_law_drawn hc_law_drawn k_law_drawn).binds (ps := ["pot", "way"]) fun _ _ _ _ _ _ us hl => match us, hl with | [_, _], _ => rfl,
    F_law := fun_mk (st := s_law) l_law hc_law k_law,
    b_law := (fun_mk (st := s_law) l_law hc_law k_law).binds (ps := ["script"]) fun _ _ _ _ _ _ us hl => match us, hl with | [_], _ => rfl,
    g_BLANK := ⟨_, PySem.W.mg_of X G cs_BLANK, ⟨_, rfl⟩⟩,
    g_STROKE := ⟨_, PySem.W.mg_of X G cs_STROKE, ⟨_, rfl⟩⟩,
    g_MINUS := ⟨_, PySem.W.mg_of X G cs_MINUS, ⟨_, rfl⟩⟩,
    g_PLUS := ⟨_, PySem.W.mg_of X G cs_PLUS, ⟨_, rfl⟩⟩,
    g_OF_SPEED := ⟨_, PySem.W.mg_of X G cs_OF_SPEED, ⟨_, rfl⟩⟩,
    g_DIGITS := ⟨_, PySem.W.mg_of X G cs_DIGITS, ⟨_, rfl⟩⟩,
    g_MOST_DIGITS := ⟨_, PySem.W.mg_of X G cs_MOST_DIGITS, ⟨_, rfl⟩⟩,
    g_THREE := ⟨_, PySem.W.mg_of X G cs_THREE, ⟨_, rfl⟩⟩,
    de_OPENING := de_OPENING,
    g_OPENING := PySem.W.mg_of X G cs_OPENING,
    dv_OPENING_0 := dv_OPENING_0,
    dv_OPENING_1 := dv_OPENING_1,
    de_CLOSING := de_CLOSING,
    g_CLOSING := PySem.W.mg_of X G cs_CLOSING,
    dv_CLOSING_0 := dv_CLOSING_0,
    dv_CLOSING_1 := dv_CLOSING_1,
    z_isinstance := PySem.W.mg_none_of X G z_isinstance,
    z_int := PySem.W.mg_none_of X G z_int,
    z_bool := PySem.W.mg_none_of X G z_bool,
    z_abs := PySem.W.mg_none_of X G z_abs,
    z_len := PySem.W.mg_none_of X G z_len,
    z_max := PySem.W.mg_none_of X G z_max,
    z_min := PySem.W.mg_none_of X G z_min,
    z_range := PySem.W.mg_none_of X G z_range,
    z_all := PySem.W.mg_none_of X G z_all,
    z_str := PySem.W.mg_none_of X G z_str,
    kit_NumNum := kit_NumNum,
    kit_LinLin := kit_LinLin,
    kit_StrStr := kit_StrStr,
    kit_blbl := kit_blbl,
    kit_BT := kit_BT,
    kit_strstr := kit_strstr,
    kit_nonstr := kit_nonstr,
    kit_nonbl := kit_nonbl,
    kit_blstr := kit_blstr,
    kit_intstr := kit_intstr,
    kit_intbl := kit_intbl,
    kit_tupstr := kit_tupstr,
    kit_tupbl := kit_tupbl,
    kit_lststr := kit_lststr,
    kit_lstbl := kit_lstbl,
    kit_dctstr := kit_dctstr,
    kit_dctbl := kit_dctbl,
    kit_strbl := kit_strbl
  }, ⟨dl_OPENING, dk_OPENING, dm_OPENING⟩, ⟨dl_CLOSING, dk_CLOSING, dm_CLOSING⟩⟩⟩

abbrev LV : Nat := 14
theorem walk {l : PySem.W.OpenLaw} {q : Program} {loose : List Str} {XP : (Str → Option Value) → Heap → Prop} {YP : World → Heap → Prop} {d : DefRec} {K : Params → PySem.W.Frag} (hn : l.most = some 63) (hdf : d.params.defaults = [])
    (hY : ∀ (w : World) (h : Heap), YP w h → (K w.params).In h)
    (F : ∀ (w : World) (mg : Str → Option Value) (fa : Addr) (h : Heap), (K w.params).In h → h.Ns mainGlobals mg → mg d.name = some (.ref fa) →
      ∃ fd : FuncData, (∀ (s : Shared) (u : Value), BindsTo s fd ⟨[u], []⟩ [("script", u)]) ∧ ∀ base : Heap, (K w.params).In base → base.Ns mainGlobals mg → FnOk l.prog w (K w.params) mg base CX0 LV fa fd ["script"] (spLaw (K w.params))) :
    PySem.W.WalkO q loose XP YP l.row.toRowW d [] (fun f vs => PySem.call f vs) :=
  L2.walk_of (n := 63) (k := LV) (x := "script") (CX := fun _ => CX0) (sp := fun w => spLaw (K w.params)) hn (by decide) hdf ⟨rfl, by decide, by decide⟩ hY F (fun _ _ a ns hl _ hS => ⟨a, ns, rfl, hS, hl, fun _ => rfl⟩) fun _ _ _ _ _ z => z
theorem law_mk {w : World} {K : PySem.W.Frag} {h : Heap} {mg : Str → Option Value} {fa : Addr} (X : K.In h) (G : h.Ns mainGlobals mg) (hfa : mg "law" = some (.ref fa))
    {c_SpeedError : Addr}
    {c_BadStretch : Addr}
    {c_BadText : Addr}
    {c_Number : Addr}
    {c_Line : Addr}
    {c_Stretch : Addr}
    {f_BadStretch_init : Addr}
    {nm_BadStretch : Str}
    {qn_BadStretch : Str}
    {Ns_BadStretch : Addr}
    {bs_BadStretch : List Value}
    {bm_BadStretch : List Value}
    {sn_BadStretch : List Str}
    {sub_BadStretch : List Value}
    {ab_BadStretch : Bool}
    {col_BadStretch : Option Bool}
    {dd_BadStretch : Option Addr}
    {k0_BadStretch : Option Value}
    {k1_BadStretch : Option Value}
    {k2_BadStretch : Option Value}
    {k3_BadStretch : Option Value}
    {k5_BadStretch : Option Value}
    {oc_BadStretch : Value}
    {od_BadStretch : Option Addr}
    {an_BadStretch : Option Addr}
    {osl_BadStretch : Array (Option Value)}
    {kV_BadStretch : Value}
    {dc_BadStretch : Value}
    {pm_BadStretch : Value}
    {ct_BadStretch : Value}
    {cda_BadStretch : Addr}
    {cc_BadStretch : Addr}
    {ccl_BadStretch : Value}
    {cdd_BadStretch : Option Addr}
    {cvs_BadStretch : Array Value}
    {ccs_BadStretch : Array (Option Value)}
    {file_BadStretch : Str}
    {tf_BadStretch : Tok}
    {cl_BadStretch : Value}
    {cld_BadStretch : Option Addr}
    {csl_BadStretch : Array (Option Value)}
    {f_BadText_init : Addr}
    {nm_BadText : Str}
    {qn_BadText : Str}
    {Ns_BadText : Addr}
    {bs_BadText : List Value}
    {bm_BadText : List Value}
    {sn_BadText : List Str}
    {sub_BadText : List Value}
    {ab_BadText : Bool}
    {col_BadText : Option Bool}
    {dd_BadText : Option Addr}
    {k0_BadText : Option Value}
    {k1_BadText : Option Value}
    {k2_BadText : Option Value}
    {k3_BadText : Option Value}
    {k5_BadText : Option Value}
    {oc_BadText : Value}
    {od_BadText : Option Addr}
    {an_BadText : Option Addr}
    {osl_BadText : Array (Option Value)}
    {kV_BadText : Value}
    {dc_BadText : Value}
    {pm_BadText : Value}
    {ct_BadText : Value}
    {cda_BadText : Addr}
    {cc_BadText : Addr}
    {ccl_BadText : Value}
    {cdd_BadText : Option Addr}
    {cvs_BadText : Array Value}
    {ccs_BadText : Array (Option Value)}
    {file_BadText : Str}
    {tf_BadText : Tok}
    {cl_BadText : Value}
    {cld_BadText : Option Addr}
    {csl_BadText : Array (Option Value)}
    {f_is_integer : Addr}
    {oc_is_integer : Value}
    {kV_is_integer : Value}
    {dc_is_integer : Value}
    {pm_is_integer : Value}
    {cd_is_integer : Value}
    {ct_is_integer : Value}
    {od_is_integer : Option Addr}
    {an_is_integer : Option Addr}
    {osl_is_integer : Array (Option Value)}
    {f_shared_divisor : Addr}
    {oc_shared_divisor : Value}
    {kV_shared_divisor : Value}
    {dc_shared_divisor : Value}
    {pm_shared_divisor : Value}
    {cd_shared_divisor : Value}
    {ct_shared_divisor : Value}
    {od_shared_divisor : Option Addr}
    {an_shared_divisor : Option Addr}
    {osl_shared_divisor : Array (Option Value)}
    {f_Number_init : Addr}
    {oc_Number_init : Value}
    {kV_Number_init : Value}
    {dc_Number_init : Value}
    {pm_Number_init : Value}
    {cd_Number_init : Value}
    {ct_Number_init : Value}
    {od_Number_init : Option Addr}
    {an_Number_init : Option Addr}
    {osl_Number_init : Array (Option Value)}
    {T_Number_init : Addr}
    {t_Number_init_0 : Tok}
    {oT_Number_init : Value}
    {dT_Number_init : Option Addr}
    {nT_Number_init : Nat}
    {sT_Number_init : Array (Option Value)}
    {f_Number_top : Addr}
    {p_Number_top : Addr}
    {r_Number_top : List Value}
    {oc_Number_top : Value}
    {kV_Number_top : Value}
    {dc_Number_top : Value}
    {pm_Number_top : Value}
    {cd_Number_top : Value}
    {ct_Number_top : Value}
    {od_Number_top : Option Addr}
    {an_Number_top : Option Addr}
    {osl_Number_top : Array (Option Value)}
    {f_Number_bottom : Addr}
    {p_Number_bottom : Addr}
    {r_Number_bottom : List Value}
    {oc_Number_bottom : Value}
    {kV_Number_bottom : Value}
    {dc_Number_bottom : Value}
    {pm_Number_bottom : Value}
    {cd_Number_bottom : Value}
    {ct_Number_bottom : Value}
    {od_Number_bottom : Option Addr}
    {an_Number_bottom : Option Addr}
    {osl_Number_bottom : Array (Option Value)}
    {f_Number_eq : Addr}
    {oc_Number_eq : Value}
    {kV_Number_eq : Value}
    {dc_Number_eq : Value}
    {pm_Number_eq : Value}
    {cd_Number_eq : Value}
    {ct_Number_eq : Value}
    {od_Number_eq : Option Addr}
    {an_Number_eq : Option Addr}
    {osl_Number_eq : Array (Option Value)}
    {f_Number_is_less : Addr}
    {oc_Number_is_less : Value}
    {kV_Number_is_less : Value}
    {dc_Number_is_less : Value}
    {pm_Number_is_less : Value}
    {cd_Number_is_less : Value}
    {ct_Number_is_less : Value}
    {od_Number_is_less : Option Addr}
    {an_Number_is_less : Option Addr}
    {osl_Number_is_less : Array (Option Value)}
    {f_Number_add : Addr}
    {oc_Number_add : Value}
    {kV_Number_add : Value}
    {dc_Number_add : Value}
    {pm_Number_add : Value}
    {cd_Number_add : Value}
    {ct_Number_add : Value}
    {od_Number_add : Option Addr}
    {an_Number_add : Option Addr}
    {osl_Number_add : Array (Option Value)}
    {f_Number_sub : Addr}
    {oc_Number_sub : Value}
    {kV_Number_sub : Value}
    {dc_Number_sub : Value}
    {pm_Number_sub : Value}
    {cd_Number_sub : Value}
    {ct_Number_sub : Value}
    {od_Number_sub : Option Addr}
    {an_Number_sub : Option Addr}
    {osl_Number_sub : Array (Option Value)}
    {f_Number_divided_by : Addr}
    {oc_Number_divided_by : Value}
    {kV_Number_divided_by : Value}
    {dc_Number_divided_by : Value}
    {pm_Number_divided_by : Value}
    {cd_Number_divided_by : Value}
    {ct_Number_divided_by : Value}
    {od_Number_divided_by : Option Addr}
    {an_Number_divided_by : Option Addr}
    {osl_Number_divided_by : Array (Option Value)}
    {f_Number_neg : Addr}
    {oc_Number_neg : Value}
    {kV_Number_neg : Value}
    {dc_Number_neg : Value}
    {pm_Number_neg : Value}
    {cd_Number_neg : Value}
    {ct_Number_neg : Value}
    {od_Number_neg : Option Addr}
    {an_Number_neg : Option Addr}
    {osl_Number_neg : Array (Option Value)}
    {f_Number_abs : Addr}
    {oc_Number_abs : Value}
    {kV_Number_abs : Value}
    {dc_Number_abs : Value}
    {pm_Number_abs : Value}
    {cd_Number_abs : Value}
    {ct_Number_abs : Value}
    {od_Number_abs : Option Addr}
    {an_Number_abs : Option Addr}
    {osl_Number_abs : Array (Option Value)}
    {f_Number_bool : Addr}
    {oc_Number_bool : Value}
    {kV_Number_bool : Value}
    {dc_Number_bool : Value}
    {pm_Number_bool : Value}
    {cd_Number_bool : Value}
    {ct_Number_bool : Value}
    {od_Number_bool : Option Addr}
    {an_Number_bool : Option Addr}
    {osl_Number_bool : Array (Option Value)}
    {f_whole : Addr}
    {oc_whole : Value}
    {kV_whole : Value}
    {dc_whole : Value}
    {pm_whole : Value}
    {cd_whole : Value}
    {ct_whole : Value}
    {od_whole : Option Addr}
    {an_whole : Option Addr}
    {osl_whole : Array (Option Value)}
    {f_Line_init : Addr}
    {oc_Line_init : Value}
    {kV_Line_init : Value}
    {dc_Line_init : Value}
    {pm_Line_init : Value}
    {cd_Line_init : Value}
    {ct_Line_init : Value}
    {od_Line_init : Option Addr}
    {an_Line_init : Option Addr}
    {osl_Line_init : Array (Option Value)}
    {f_Line_base : Addr}
    {p_Line_base : Addr}
    {r_Line_base : List Value}
    {oc_Line_base : Value}
    {kV_Line_base : Value}
    {dc_Line_base : Value}
    {pm_Line_base : Value}
    {cd_Line_base : Value}
    {ct_Line_base : Value}
    {od_Line_base : Option Addr}
    {an_Line_base : Option Addr}
    {osl_Line_base : Array (Option Value)}
    {f_Line_slope : Addr}
    {p_Line_slope : Addr}
    {r_Line_slope : List Value}
    {oc_Line_slope : Value}
    {kV_Line_slope : Value}
    {dc_Line_slope : Value}
    {pm_Line_slope : Value}
    {cd_Line_slope : Value}
    {ct_Line_slope : Value}
    {od_Line_slope : Option Addr}
    {an_Line_slope : Option Addr}
    {osl_Line_slope : Array (Option Value)}
    {f_Stretch_init : Addr}
    {oc_Stretch_init : Value}
    {dc_Stretch_init : Value}
    {pm_Stretch_init : Value}
    {cd_Stretch_init : Value}
    {ct_Stretch_init : Value}
    {od_Stretch_init : Option Addr}
    {an_Stretch_init : Option Addr}
    {osl_Stretch_init : Array (Option Value)}
    {D_Stretch_init : Addr}
    {f_Stretch_low : Addr}
    {p_Stretch_low : Addr}
    {r_Stretch_low : List Value}
    {oc_Stretch_low : Value}
    {kV_Stretch_low : Value}
    {dc_Stretch_low : Value}
    {pm_Stretch_low : Value}
    {cd_Stretch_low : Value}
    {ct_Stretch_low : Value}
    {od_Stretch_low : Option Addr}
    {an_Stretch_low : Option Addr}
    {osl_Stretch_low : Array (Option Value)}
    {f_Stretch_high : Addr}
    {p_Stretch_high : Addr}
    {r_Stretch_high : List Value}
    {oc_Stretch_high : Value}
    {kV_Stretch_high : Value}
    {dc_Stretch_high : Value}
    {pm_Stretch_high : Value}
    {cd_Stretch_high : Value}
    {ct_Stretch_high : Value}
    {od_Stretch_high : Option Addr}
    {an_Stretch_high : Option Addr}
    {osl_Stretch_high : Array (Option Value)}
    {f_Stretch_has_low : Addr}
    {p_Stretch_has_low : Addr}
    {r_Stretch_has_low : List Value}
    {oc_Stretch_has_low : Value}
    {kV_Stretch_has_low : Value}
    {dc_Stretch_has_low : Value}
    {pm_Stretch_has_low : Value}
    {cd_Stretch_has_low : Value}
    {ct_Stretch_has_low : Value}
    {od_Stretch_has_low : Option Addr}
    {an_Stretch_has_low : Option Addr}
    {osl_Stretch_has_low : Array (Option Value)}
    {f_Stretch_has_high : Addr}
    {p_Stretch_has_high : Addr}
    {r_Stretch_has_high : List Value}
    {oc_Stretch_has_high : Value}
    {kV_Stretch_has_high : Value}
    {dc_Stretch_has_high : Value}
    {pm_Stretch_has_high : Value}
    {cd_Stretch_has_high : Value}
    {ct_Stretch_has_high : Value}
    {od_Stretch_has_high : Option Addr}
    {an_Stretch_has_high : Option Addr}
    {osl_Stretch_has_high : Array (Option Value)}
    {f_show_number : Addr}
    {oc_show_number : Value}
    {kV_show_number : Value}
    {dc_show_number : Value}
    {pm_show_number : Value}
    {cd_show_number : Value}
    {ct_show_number : Value}
    {od_show_number : Option Addr}
    {an_show_number : Option Addr}
    {osl_show_number : Array (Option Value)}
    {f_show_line : Addr}
    {oc_show_line : Value}
    {kV_show_line : Value}
    {dc_show_line : Value}
    {pm_show_line : Value}
    {cd_show_line : Value}
    {ct_show_line : Value}
    {od_show_line : Option Addr}
    {an_show_line : Option Addr}
    {osl_show_line : Array (Option Value)}
    {f_show_stretch : Addr}
    {oc_show_stretch : Value}
    {kV_show_stretch : Value}
    {dc_show_stretch : Value}
    {pm_show_stretch : Value}
    {cd_show_stretch : Value}
    {ct_show_stretch : Value}
    {od_show_stretch : Option Addr}
    {an_show_stretch : Option Addr}
    {osl_show_stretch : Array (Option Value)}
    {f_digits_in : Addr}
    {oc_digits_in : Value}
    {kV_digits_in : Value}
    {dc_digits_in : Value}
    {pm_digits_in : Value}
    {cd_digits_in : Value}
    {ct_digits_in : Value}
    {od_digits_in : Option Addr}
    {an_digits_in : Option Addr}
    {osl_digits_in : Array (Option Value)}
    {f_number_in : Addr}
    {oc_number_in : Value}
    {kV_number_in : Value}
    {dc_number_in : Value}
    {pm_number_in : Value}
    {cd_number_in : Value}
    {ct_number_in : Value}
    {od_number_in : Option Addr}
    {an_number_in : Option Addr}
    {osl_number_in : Array (Option Value)}
    {f_slope_in : Addr}
    {oc_slope_in : Value}
    {kV_slope_in : Value}
    {dc_slope_in : Value}
    {pm_slope_in : Value}
    {cd_slope_in : Value}
    {ct_slope_in : Value}
    {od_slope_in : Option Addr}
    {an_slope_in : Option Addr}
    {osl_slope_in : Array (Option Value)}
    {f_line_in : Addr}
    {oc_line_in : Value}
    {kV_line_in : Value}
    {dc_line_in : Value}
    {pm_line_in : Value}
    {cd_line_in : Value}
    {ct_line_in : Value}
    {od_line_in : Option Addr}
    {an_line_in : Option Addr}
    {osl_line_in : Array (Option Value)}
    {f_stretch_in : Addr}
    {oc_stretch_in : Value}
    {kV_stretch_in : Value}
    {dc_stretch_in : Value}
    {pm_stretch_in : Value}
    {cd_stretch_in : Value}
    {ct_stretch_in : Value}
    {od_stretch_in : Option Addr}
    {an_stretch_in : Option Addr}
    {osl_stretch_in : Array (Option Value)}
    {f_read_by : Addr}
    {oc_read_by : Value}
    {kV_read_by : Value}
    {dc_read_by : Value}
    {pm_read_by : Value}
    {cd_read_by : Value}
    {ct_read_by : Value}
    {od_read_by : Option Addr}
    {an_read_by : Option Addr}
    {osl_read_by : Array (Option Value)}
    {f_read_number : Addr}
    {oc_read_number : Value}
    {kV_read_number : Value}
    {dc_read_number : Value}
    {pm_read_number : Value}
    {cd_read_number : Value}
    {ct_read_number : Value}
    {od_read_number : Option Addr}
    {an_read_number : Option Addr}
    {osl_read_number : Array (Option Value)}
    {f_read_line : Addr}
    {oc_read_line : Value}
    {kV_read_line : Value}
    {dc_read_line : Value}
    {pm_read_line : Value}
    {cd_read_line : Value}
    {ct_read_line : Value}
    {od_read_line : Option Addr}
    {an_read_line : Option Addr}
    {osl_read_line : Array (Option Value)}
    {f_read_stretch : Addr}
    {oc_read_stretch : Value}
    {kV_read_stretch : Value}
    {dc_read_stretch : Value}
    {pm_read_stretch : Value}
    {cd_read_stretch : Value}
    {ct_read_stretch : Value}
    {od_read_stretch : Option Addr}
    {an_read_stretch : Option Addr}
    {osl_read_stretch : Array (Option Value)}
    {f_law_pot : Addr}
    {oc_law_pot : Value}
    {kV_law_pot : Value}
    {dc_law_pot : Value}
    {pm_law_pot : Value}
    {cd_law_pot : Value}
    {ct_law_pot : Value}
    {od_law_pot : Option Addr}
    {an_law_pot : Option Addr}
    {osl_law_pot : Array (Option Value)}
    {f_law_take : Addr}
    {oc_law_take : Value}
    {kV_law_take : Value}
    {dc_law_take : Value}
    {pm_law_take : Value}
    {cd_law_take : Value}
    {ct_law_take : Value}
    {od_law_take : Option Addr}
    {an_law_take : Option Addr}
    {osl_law_take : Array (Option Value)}
    {f_law_of : Addr}
    {oc_law_of : Value}
    {kV_law_of : Value}
    {dc_law_of : Value}
    {pm_law_of : Value}
    {cd_law_of : Value}
    {ct_law_of : Value}
    {od_law_of : Option Addr}
    {an_law_of : Option Addr}
    {osl_law_of : Array (Option Value)}
    {f_law_digits : Addr}
    {oc_law_digits : Value}
    {kV_law_digits : Value}
    {dc_law_digits : Value}
    {pm_law_digits : Value}
    {cd_law_digits : Value}
    {ct_law_digits : Value}
    {od_law_digits : Option Addr}
    {an_law_digits : Option Addr}
    {osl_law_digits : Array (Option Value)}
    {f_law_lowest : Addr}
    {oc_law_lowest : Value}
    {kV_law_lowest : Value}
    {dc_law_lowest : Value}
    {pm_law_lowest : Value}
    {cd_law_lowest : Value}
    {ct_law_lowest : Value}
    {od_law_lowest : Option Addr}
    {an_law_lowest : Option Addr}
    {osl_law_lowest : Array (Option Value)}
    {f_law_pair : Addr}
    {oc_law_pair : Value}
    {kV_law_pair : Value}
    {dc_law_pair : Value}
    {pm_law_pair : Value}
    {cd_law_pair : Value}
    {ct_law_pair : Value}
    {od_law_pair : Option Addr}
    {an_law_pair : Option Addr}
    {osl_law_pair : Array (Option Value)}
    {f_law_number_text : Addr}
    {oc_law_number_text : Value}
    {kV_law_number_text : Value}
    {dc_law_number_text : Value}
    {pm_law_number_text : Value}
    {cd_law_number_text : Value}
    {ct_law_number_text : Value}
    {od_law_number_text : Option Addr}
    {an_law_number_text : Option Addr}
    {osl_law_number_text : Array (Option Value)}
    {f_law_line_text : Addr}
    {oc_law_line_text : Value}
    {kV_law_line_text : Value}
    {dc_law_line_text : Value}
    {pm_law_line_text : Value}
    {cd_law_line_text : Value}
    {ct_law_line_text : Value}
    {od_law_line_text : Option Addr}
    {an_law_line_text : Option Addr}
    {osl_law_line_text : Array (Option Value)}
    {f_law_is_digits : Addr}
    {oc_law_is_digits : Value}
    {kV_law_is_digits : Value}
    {dc_law_is_digits : Value}
    {pm_law_is_digits : Value}
    {cd_law_is_digits : Value}
    {ct_law_is_digits : Value}
    {od_law_is_digits : Option Addr}
    {an_law_is_digits : Option Addr}
    {osl_law_is_digits : Array (Option Value)}
    {f_law_number_of : Addr}
    {oc_law_number_of : Value}
    {kV_law_number_of : Value}
    {dc_law_number_of : Value}
    {pm_law_number_of : Value}
    {cd_law_number_of : Value}
    {ct_law_number_of : Value}
    {od_law_number_of : Option Addr}
    {an_law_number_of : Option Addr}
    {osl_law_number_of : Array (Option Value)}
    {f_law_is_line : Addr}
    {oc_law_is_line : Value}
    {kV_law_is_line : Value}
    {dc_law_is_line : Value}
    {pm_law_is_line : Value}
    {cd_law_is_line : Value}
    {ct_law_is_line : Value}
    {od_law_is_line : Option Addr}
    {an_law_is_line : Option Addr}
    {osl_law_is_line : Array (Option Value)}
    {f_law_is_stretch : Addr}
    {oc_law_is_stretch : Value}
    {kV_law_is_stretch : Value}
    {dc_law_is_stretch : Value}
    {pm_law_is_stretch : Value}
    {cd_law_is_stretch : Value}
    {ct_law_is_stretch : Value}
    {od_law_is_stretch : Option Addr}
    {an_law_is_stretch : Option Addr}
    {osl_law_is_stretch : Array (Option Value)}
    {f_law_due : Addr}
    {oc_law_due : Value}
    {kV_law_due : Value}
    {dc_law_due : Value}
    {pm_law_due : Value}
    {cd_law_due : Value}
    {ct_law_due : Value}
    {od_law_due : Option Addr}
    {an_law_due : Option Addr}
    {osl_law_due : Array (Option Value)}
    {f_law_read : Addr}
    {oc_law_read : Value}
    {kV_law_read : Value}
    {dc_law_read : Value}
    {pm_law_read : Value}
    {cd_law_read : Value}
    {ct_law_read : Value}
    {od_law_read : Option Addr}
    {an_law_read : Option Addr}
    {osl_law_read : Array (Option Value)}
    {f_law_is_right : Addr}
    {oc_law_is_right : Value}
    {kV_law_is_right : Value}
    {dc_law_is_right : Value}
    {pm_law_is_right : Value}
    {cd_law_is_right : Value}
    {ct_law_is_right : Value}
    {od_law_is_right : Option Addr}
    {an_law_is_right : Option Addr}
    {osl_law_is_right : Array (Option Value)}
    {f_law_bent : Addr}
    {oc_law_bent : Value}
    {kV_law_bent : Value}
    {dc_law_bent : Value}
    {pm_law_bent : Value}
    {cd_law_bent : Value}
    {ct_law_bent : Value}
    {od_law_bent : Option Addr}
    {an_law_bent : Option Addr}
    {osl_law_bent : Array (Option Value)}
    {f_law_drawn : Addr}
    {oc_law_drawn : Value}
    {kV_law_drawn : Value}
    {dc_law_drawn : Value}
    {pm_law_drawn : Value}
    {cd_law_drawn : Value}
    {ct_law_drawn : Value}
    {od_law_drawn : Option Addr}
    {an_law_drawn : Option Addr}
    {osl_law_drawn : Array (Option Value)}
    {f_law : Addr}
    {oc_law : Value}
    {kV_law : Value}
    {dc_law : Value}
    {pm_law : Value}
    {cd_law : Value}
    {ct_law : Value}
    {od_law : Option Addr}
    {an_law : Option Addr}
    {osl_law : Array (Option Value)}
    {ct_BLANK : Tok}
    {ct_STROKE : Tok}
    {ct_MINUS : Tok}
    {ct_PLUS : Tok}
    {ct_OF_SPEED : Tok}
    {ct_DIGITS : Tok}
    {ct_MOST_DIGITS : Tok}
    {ct_THREE : Tok}
    {D_OPENING : Addr}
    {es_OPENING : Array DictEntry}
    {nn_OPENING : Nat}
    {D_CLOSING : Addr}
    {es_CLOSING : Array DictEntry}
    {nn_CLOSING : Nat}
    (a_SpeedError : PySem.W.nsIn K mainGlobals "SpeedError" = some (some (.ref c_SpeedError)))
    (a_BadStretch : PySem.W.nsIn K mainGlobals "BadStretch" = some (some (.ref c_BadStretch)))
    (a_BadText : PySem.W.nsIn K mainGlobals "BadText" = some (some (.ref c_BadText)))
    (a_Number : PySem.W.nsIn K mainGlobals "Number" = some (some (.ref c_Number)))
    (pg_Number : PySem.W.plainGet K c_Number Str.empty = true)
    (hd_Number : PySem.W.hasDictIn K c_Number = true)
    (po_Number : PySem.W.plainOver K c_Number = true)
    (sa_Number : PySem.W.findIn K (.ref c_Number) "__setattr__" = some (some (.builtin "object.__setattr__")))
    (mk_Number : PySem.W.makesIn K c_Number = true)
    (kc_Number : PySem.W.keepIn K (.ref c_Number) = true)
    (sf_Number : PySem.W.selfFirst K c_Number = true)
    (ca_Number : PySem.W.findIn K (.ref c_Number) "__class__" = some (some (.builtin "object.__class__")))
    (cm_Number : PySem.W.mroIn K c_Number (.type "object") = some true)
    (n_Number_own_top : PySem.W.findIn K (.ref c_Number) "own_top" = some none)
    (n_Number_own_bottom : PySem.W.findIn K (.ref c_Number) "own_bottom" = some none)
    (a_Line : PySem.W.nsIn K mainGlobals "Line" = some (some (.ref c_Line)))
    (pg_Line : PySem.W.plainGet K c_Line Str.empty = true)
    (hd_Line : PySem.W.hasDictIn K c_Line = true)
    (po_Line : PySem.W.plainOver K c_Line = true)
    (sa_Line : PySem.W.findIn K (.ref c_Line) "__setattr__" = some (some (.builtin "object.__setattr__")))
    (mk_Line : PySem.W.makesIn K c_Line = true)
    (kc_Line : PySem.W.keepIn K (.ref c_Line) = true)
    (sf_Line : PySem.W.selfFirst K c_Line = true)
    (ca_Line : PySem.W.findIn K (.ref c_Line) "__class__" = some (some (.builtin "object.__class__")))
    (cm_Line : PySem.W.mroIn K c_Line (.type "object") = some true)
    (n_Line_own_base : PySem.W.findIn K (.ref c_Line) "own_base" = some none)
    (n_Line_own_slope : PySem.W.findIn K (.ref c_Line) "own_slope" = some none)
    (a_Stretch : PySem.W.nsIn K mainGlobals "Stretch" = some (some (.ref c_Stretch)))
    (pg_Stretch : PySem.W.plainGet K c_Stretch Str.empty = true)
    (hd_Stretch : PySem.W.hasDictIn K c_Stretch = true)
    (po_Stretch : PySem.W.plainOver K c_Stretch = true)
    (sa_Stretch : PySem.W.findIn K (.ref c_Stretch) "__setattr__" = some (some (.builtin "object.__setattr__")))
    (mk_Stretch : PySem.W.makesIn K c_Stretch = true)
    (kc_Stretch : PySem.W.keepIn K (.ref c_Stretch) = true)
    (sf_Stretch : PySem.W.selfFirst K c_Stretch = true)
    (ca_Stretch : PySem.W.findIn K (.ref c_Stretch) "__class__" = some (some (.builtin "object.__class__")))
    (cm_Stretch : PySem.W.mroIn K c_Stretch (.type "object") = some true)
    (n_Stretch_own_low : PySem.W.findIn K (.ref c_Stretch) "own_low" = some none)
    (n_Stretch_own_high : PySem.W.findIn K (.ref c_Stretch) "own_high" = some none)
    (n_Stretch_includes_low : PySem.W.findIn K (.ref c_Stretch) "includes_low" = some none)
    (n_Stretch_includes_high : PySem.W.findIn K (.ref c_Stretch) "includes_high" = some none)
    (n_Stretch_own_middle : PySem.W.findIn K (.ref c_Stretch) "own_middle" = some none)
    (cn : PySem.W.specialIn K (.builtin "object.__class__") "__get__" = some (some (.builtin "getset_descriptor.__get__")))
    (ct : PySem.W.takesIn K (.builtin "object.__class__") = some true)
    (z_super : PySem.W.nsIn K mainGlobals "super" = some none)
    (tp_any : PySem.W.nsIn K PySem.cStatics "thirdparty.any" = some none)
    (lC_BadStretch : K.lookup c_BadStretch = some (excClassObj nm_BadStretch qn_BadStretch c_BadStretch Ns_BadStretch bs_BadStretch bm_BadStretch true sn_BadStretch sub_BadStretch ab_BadStretch col_BadStretch dd_BadStretch k0_BadStretch k1_BadStretch k2_BadStretch k3_BadStretch k5_BadStretch "ValueError.__new__"))
    (rv_BadStretch : PySem.HandSPX.refsVE bm_BadStretch = true)
    (sa_BadStretch : PySem.W.findIn K (.ref c_BadStretch) "__setattr__" = some (some (.builtin "object.__setattr__")))
    (ex_BadStretch : PySem.W.subIn K (.ref c_BadStretch) (.type "BaseException") = some true)
    (ty_BadStretch : PySem.W.typeIn K (.ref c_BadStretch) = some (.type "type"))
    (kc_BadStretch : PySem.W.keepIn K (.ref c_BadStretch) = true)
    (in_BadStretch : PySem.W.findIn K (.ref c_BadStretch) "__init__" = some (some (.ref f_BadStretch_init)))
    (ti_BadStretch : PySem.W.typeIn K (.ref f_BadStretch_init) = some (.type "function"))
    (lf_BadStretch : K.lookup f_BadStretch_init = some ⟨oc_BadStretch, od_BadStretch, .func (PySem.W.ksFn "__init__" "BadStretch.__init__" (defArgs s_BadStretch_init) (defBody s_BadStretch_init) (defScope s_BadStretch_init) .none kV_BadStretch dc_BadStretch pm_BadStretch an_BadStretch (.ref cda_BadStretch) ct_BadStretch cc_BadStretch), osl_BadStretch⟩)
    (hc_BadStretch : PySem.W.codeIn K (.ref cda_BadStretch) "BadStretch.__init__" = true)
    (lk_BadStretch : K.lookup cda_BadStretch = some ⟨ccl_BadStretch, cdd_BadStretch, .fields cvs_BadStretch, ccs_BadStretch⟩)
    (vs_BadStretch : cvs_BadStretch[2]? = some (.str file_BadStretch tf_BadStretch))
    (fi_BadStretch : ((PP.main.file : Str) == file_BadStretch) = true)
    (lc_BadStretch : K.lookup cc_BadStretch = some ⟨cl_BadStretch, cld_BadStretch, .cell (some (.ref c_BadStretch)), csl_BadStretch⟩)
    (ms_BadStretch : PySem.W.mroIn K c_BadStretch (.ref c_BadStretch) = some true)
    (sv_BadStretch : PySem.W.subIn K (.ref c_BadStretch) (.type "ValueError") = some true)
    (sp_BadStretch : PySem.W.ks_superIn K c_BadStretch c_BadStretch "__init__" = some (some (.builtin "ValueError.__init__")))
    (no_BadStretch : PySem.W.findIn K (.ref c_BadStretch) "value" = some none)
    (ga_BadStretch : PySem.W.findIn K (.ref c_BadStretch) "__getattribute__" = some (some (.builtin "BaseException.__getattribute__")))
    (gg_BadStretch : PySem.W.findIn K (.ref c_BadStretch) "__getattr__" = some none)
    (hd_BadStretch : PySem.W.hasDictIn K c_BadStretch = true)
    (ca_BadStretch : PySem.W.findIn K (.ref c_BadStretch) "__class__" = some (some (.builtin "object.__class__")))
    (cm_BadStretch : PySem.W.mroIn K c_BadStretch (.type "object") = some true)
    (su_BadStretch_SpeedError : PySem.W.subIn K (.ref c_BadStretch) (.ref c_SpeedError) = some true)
    (ic_SpeedError : PySem.W.isClsIn K c_SpeedError = true)
    (sb_SpeedError : PySem.W.subIn K (.ref c_SpeedError) (.type "BaseException") = some true)
    (tt_SpeedError : PySem.W.typeIn K (.ref c_SpeedError) = some (.type "type"))
    (su_BadStretch_BadStretch : PySem.W.subIn K (.ref c_BadStretch) (.ref c_BadStretch) = some true)
    (ic_BadStretch : PySem.W.isClsIn K c_BadStretch = true)
    (sb_BadStretch : PySem.W.subIn K (.ref c_BadStretch) (.type "BaseException") = some true)
    (tt_BadStretch : PySem.W.typeIn K (.ref c_BadStretch) = some (.type "type"))
    (lC_BadText : K.lookup c_BadText = some (excClassObj nm_BadText qn_BadText c_BadText Ns_BadText bs_BadText bm_BadText true sn_BadText sub_BadText ab_BadText col_BadText dd_BadText k0_BadText k1_BadText k2_BadText k3_BadText k5_BadText "ValueError.__new__"))
    (rv_BadText : PySem.HandSPX.refsVE bm_BadText = true)
    (sa_BadText : PySem.W.findIn K (.ref c_BadText) "__setattr__" = some (some (.builtin "object.__setattr__")))
    (ex_BadText : PySem.W.subIn K (.ref c_BadText) (.type "BaseException") = some true)
    (ty_BadText : PySem.W.typeIn K (.ref c_BadText) = some (.type "type"))
    (kc_BadText : PySem.W.keepIn K (.ref c_BadText) = true)
    (in_BadText : PySem.W.findIn K (.ref c_BadText) "__init__" = some (some (.ref f_BadText_init)))
    (ti_BadText : PySem.W.typeIn K (.ref f_BadText_init) = some (.type "function"))
    (lf_BadText : K.lookup f_BadText_init = some ⟨oc_BadText, od_BadText, .func (PySem.W.ksFn "__init__" "BadText.__init__" (defArgs s_BadText_init) (defBody s_BadText_init) (defScope s_BadText_init) .none kV_BadText dc_BadText pm_BadText an_BadText (.ref cda_BadText) ct_BadText cc_BadText), osl_BadText⟩)
    (hc_BadText : PySem.W.codeIn K (.ref cda_BadText) "BadText.__init__" = true)
    (lk_BadText : K.lookup cda_BadText = some ⟨ccl_BadText, cdd_BadText, .fields cvs_BadText, ccs_BadText⟩)
    (vs_BadText : cvs_BadText[2]? = some (.str file_BadText tf_BadText))
    (fi_BadText : ((PP.main.file : Str) == file_BadText) = true)
    (lc_BadText : K.lookup cc_BadText = some ⟨cl_BadText, cld_BadText, .cell (some (.ref c_BadText)), csl_BadText⟩)
    (ms_BadText : PySem.W.mroIn K c_BadText (.ref c_BadText) = some true)
    (sv_BadText : PySem.W.subIn K (.ref c_BadText) (.type "ValueError") = some true)
    (sp_BadText : PySem.W.ks_superIn K c_BadText c_BadText "__init__" = some (some (.builtin "ValueError.__init__")))
    (no_BadText : PySem.W.findIn K (.ref c_BadText) "value" = some none)
    (ga_BadText : PySem.W.findIn K (.ref c_BadText) "__getattribute__" = some (some (.builtin "BaseException.__getattribute__")))
    (gg_BadText : PySem.W.findIn K (.ref c_BadText) "__getattr__" = some none)
    (hd_BadText : PySem.W.hasDictIn K c_BadText = true)
    (ca_BadText : PySem.W.findIn K (.ref c_BadText) "__class__" = some (some (.builtin "object.__class__")))
    (cm_BadText : PySem.W.mroIn K c_BadText (.type "object") = some true)
    (su_BadText_SpeedError : PySem.W.subIn K (.ref c_BadText) (.ref c_SpeedError) = some true)
    (a_is_integer : PySem.W.nsIn K mainGlobals "is_integer" = some (some (.ref f_is_integer)))
    (l_is_integer : K.lookup f_is_integer = some ⟨oc_is_integer, od_is_integer, .func (PySem.W.fnOf "is_integer" "is_integer" (defArgs s_is_integer) (defBody s_is_integer) (defScope s_is_integer) .none kV_is_integer dc_is_integer pm_is_integer an_is_integer cd_is_integer ct_is_integer), osl_is_integer⟩)
    (hc_is_integer : PySem.W.codeIn K cd_is_integer "is_integer" = true)
    (k_is_integer : PySem.W.keepIn K (.ref f_is_integer) = true)
    (a_shared_divisor : PySem.W.nsIn K mainGlobals "shared_divisor" = some (some (.ref f_shared_divisor)))
    (l_shared_divisor : K.lookup f_shared_divisor = some ⟨oc_shared_divisor, od_shared_divisor, .func (PySem.W.fnOf "shared_divisor" "shared_divisor" (defArgs s_shared_divisor) (defBody s_shared_divisor) (defScope s_shared_divisor) .none kV_shared_divisor dc_shared_divisor pm_shared_divisor an_shared_divisor cd_shared_divisor ct_shared_divisor), osl_shared_divisor⟩)
    (hc_shared_divisor : PySem.W.codeIn K cd_shared_divisor "shared_divisor" = true)
    (k_shared_divisor : PySem.W.keepIn K (.ref f_shared_divisor) = true)
    (a_Number_init : PySem.W.findIn K (.ref c_Number) "__init__" = some (some (.ref f_Number_init)))
    (i_Number_init : PySem.W.isFn K (.ref f_Number_init) = true)
    (l_Number_init : K.lookup f_Number_init = some ⟨oc_Number_init, od_Number_init, .func (PySem.W.fnOf "__init__" "Number.__init__" (defArgs s_Number_init) (defBody s_Number_init) (defScope s_Number_init) (.ref T_Number_init) kV_Number_init dc_Number_init pm_Number_init an_Number_init cd_Number_init ct_Number_init), osl_Number_init⟩)
    (hc_Number_init : PySem.W.codeIn K cd_Number_init "Number.__init__" = true)
    (k_Number_init : PySem.W.keepIn K (.ref f_Number_init) = true)
    (lT_Number_init : K.lookup T_Number_init = some ⟨oT_Number_init, dT_Number_init, .seq #[.int 1 t_Number_init_0] nT_Number_init, sT_Number_init⟩)
    (at_Number_top : PySem.W.findIn K (.ref c_Number) "top" = some (some (.ref p_Number_top)))
    (gt_Number_top : PySem.W.specialIn K (.ref p_Number_top) "__get__" = some (some (.builtin "property.__get__")))
    (tk_Number_top : PySem.W.takesIn K (.ref p_Number_top) = some true)
    (rc_Number_top : PySem.W.recIn K p_Number_top "property" = some (.ref f_Number_top :: r_Number_top))
    (l_Number_top : K.lookup f_Number_top = some ⟨oc_Number_top, od_Number_top, .func (PySem.W.fnOf "top" "Number.top" (defArgs s_Number_top) (defBody s_Number_top) (defScope s_Number_top) .none kV_Number_top dc_Number_top pm_Number_top an_Number_top cd_Number_top ct_Number_top), osl_Number_top⟩)
    (hc_Number_top : PySem.W.codeIn K cd_Number_top "Number.top" = true)
    (k_Number_top : PySem.W.keepIn K (.ref f_Number_top) = true)
    (at_Number_bottom : PySem.W.findIn K (.ref c_Number) "bottom" = some (some (.ref p_Number_bottom)))
    (gt_Number_bottom : PySem.W.specialIn K (.ref p_Number_bottom) "__get__" = some (some (.builtin "property.__get__")))
    (tk_Number_bottom : PySem.W.takesIn K (.ref p_Number_bottom) = some true)
    (rc_Number_bottom : PySem.W.recIn K p_Number_bottom "property" = some (.ref f_Number_bottom :: r_Number_bottom))
    (l_Number_bottom : K.lookup f_Number_bottom = some ⟨oc_Number_bottom, od_Number_bottom, .func (PySem.W.fnOf "bottom" "Number.bottom" (defArgs s_Number_bottom) (defBody s_Number_bottom) (defScope s_Number_bottom) .none kV_Number_bottom dc_Number_bottom pm_Number_bottom an_Number_bottom cd_Number_bottom ct_Number_bottom), osl_Number_bottom⟩)
    (hc_Number_bottom : PySem.W.codeIn K cd_Number_bottom "Number.bottom" = true)
    (k_Number_bottom : PySem.W.keepIn K (.ref f_Number_bottom) = true)
    (a_Number_eq : PySem.W.findIn K (.ref c_Number) "__eq__" = some (some (.ref f_Number_eq)))
    (i_Number_eq : PySem.W.isFn K (.ref f_Number_eq) = true)
    (l_Number_eq : K.lookup f_Number_eq = some ⟨oc_Number_eq, od_Number_eq, .func (PySem.W.fnOf "__eq__" "Number.__eq__" (defArgs s_Number_eq) (defBody s_Number_eq) (defScope s_Number_eq) .none kV_Number_eq dc_Number_eq pm_Number_eq an_Number_eq cd_Number_eq ct_Number_eq), osl_Number_eq⟩)
    (hc_Number_eq : PySem.W.codeIn K cd_Number_eq "Number.__eq__" = true)
    (k_Number_eq : PySem.W.keepIn K (.ref f_Number_eq) = true)
    (a_Number_is_less : PySem.W.findIn K (.ref c_Number) "is_less" = some (some (.ref f_Number_is_less)))
    (i_Number_is_less : PySem.W.isFn K (.ref f_Number_is_less) = true)
    (l_Number_is_less : K.lookup f_Number_is_less = some ⟨oc_Number_is_less, od_Number_is_less, .func (PySem.W.fnOf "is_less" "Number.is_less" (defArgs s_Number_is_less) (defBody s_Number_is_less) (defScope s_Number_is_less) .none kV_Number_is_less dc_Number_is_less pm_Number_is_less an_Number_is_less cd_Number_is_less ct_Number_is_less), osl_Number_is_less⟩)
    (hc_Number_is_less : PySem.W.codeIn K cd_Number_is_less "Number.is_less" = true)
    (k_Number_is_less : PySem.W.keepIn K (.ref f_Number_is_less) = true)
    (a_Number_add : PySem.W.findIn K (.ref c_Number) "__add__" = some (some (.ref f_Number_add)))
    (i_Number_add : PySem.W.isFn K (.ref f_Number_add) = true)
    (l_Number_add : K.lookup f_Number_add = some ⟨oc_Number_add, od_Number_add, .func (PySem.W.fnOf "__add__" "Number.__add__" (defArgs s_Number_add) (defBody s_Number_add) (defScope s_Number_add) .none kV_Number_add dc_Number_add pm_Number_add an_Number_add cd_Number_add ct_Number_add), osl_Number_add⟩)
    (hc_Number_add : PySem.W.codeIn K cd_Number_add "Number.__add__" = true)
    (k_Number_add : PySem.W.keepIn K (.ref f_Number_add) = true)
    (a_Number_sub : PySem.W.findIn K (.ref c_Number) "__sub__" = some (some (.ref f_Number_sub)))
    (i_Number_sub : PySem.W.isFn K (.ref f_Number_sub) = true)
    (l_Number_sub : K.lookup f_Number_sub = some ⟨oc_Number_sub, od_Number_sub, .func (PySem.W.fnOf "__sub__" "Number.__sub__" (defArgs s_Number_sub) (defBody s_Number_sub) (defScope s_Number_sub) .none kV_Number_sub dc_Number_sub pm_Number_sub an_Number_sub cd_Number_sub ct_Number_sub), osl_Number_sub⟩)
    (hc_Number_sub : PySem.W.codeIn K cd_Number_sub "Number.__sub__" = true)
    (k_Number_sub : PySem.W.keepIn K (.ref f_Number_sub) = true)
    (a_Number_divided_by : PySem.W.findIn K (.ref c_Number) "divided_by" = some (some (.ref f_Number_divided_by)))
    (i_Number_divided_by : PySem.W.isFn K (.ref f_Number_divided_by) = true)
    (l_Number_divided_by : K.lookup f_Number_divided_by = some ⟨oc_Number_divided_by, od_Number_divided_by, .func (PySem.W.fnOf "divided_by" "Number.divided_by" (defArgs s_Number_divided_by) (defBody s_Number_divided_by) (defScope s_Number_divided_by) .none kV_Number_divided_by dc_Number_divided_by pm_Number_divided_by an_Number_divided_by cd_Number_divided_by ct_Number_divided_by), osl_Number_divided_by⟩)
    (hc_Number_divided_by : PySem.W.codeIn K cd_Number_divided_by "Number.divided_by" = true)
    (k_Number_divided_by : PySem.W.keepIn K (.ref f_Number_divided_by) = true)
    (a_Number_neg : PySem.W.findIn K (.ref c_Number) "__neg__" = some (some (.ref f_Number_neg)))
    (i_Number_neg : PySem.W.isFn K (.ref f_Number_neg) = true)
    (l_Number_neg : K.lookup f_Number_neg = some ⟨oc_Number_neg, od_Number_neg, .func (PySem.W.fnOf "__neg__" "Number.__neg__" (defArgs s_Number_neg) (defBody s_Number_neg) (defScope s_Number_neg) .none kV_Number_neg dc_Number_neg pm_Number_neg an_Number_neg cd_Number_neg ct_Number_neg), osl_Number_neg⟩)
    (hc_Number_neg : PySem.W.codeIn K cd_Number_neg "Number.__neg__" = true)
    (k_Number_neg : PySem.W.keepIn K (.ref f_Number_neg) = true)
    (a_Number_abs : PySem.W.findIn K (.ref c_Number) "__abs__" = some (some (.ref f_Number_abs)))
    (i_Number_abs : PySem.W.isFn K (.ref f_Number_abs) = true)
    (l_Number_abs : K.lookup f_Number_abs = some ⟨oc_Number_abs, od_Number_abs, .func (PySem.W.fnOf "__abs__" "Number.__abs__" (defArgs s_Number_abs) (defBody s_Number_abs) (defScope s_Number_abs) .none kV_Number_abs dc_Number_abs pm_Number_abs an_Number_abs cd_Number_abs ct_Number_abs), osl_Number_abs⟩)
    (hc_Number_abs : PySem.W.codeIn K cd_Number_abs "Number.__abs__" = true)
    (k_Number_abs : PySem.W.keepIn K (.ref f_Number_abs) = true)
    (a_Number_bool : PySem.W.findIn K (.ref c_Number) "__bool__" = some (some (.ref f_Number_bool)))
    (i_Number_bool : PySem.W.isFn K (.ref f_Number_bool) = true)
    (l_Number_bool : K.lookup f_Number_bool = some ⟨oc_Number_bool, od_Number_bool, .func (PySem.W.fnOf "__bool__" "Number.__bool__" (defArgs s_Number_bool) (defBody s_Number_bool) (defScope s_Number_bool) .none kV_Number_bool dc_Number_bool pm_Number_bool an_Number_bool cd_Number_bool ct_Number_bool), osl_Number_bool⟩)
    (hc_Number_bool : PySem.W.codeIn K cd_Number_bool "Number.__bool__" = true)
    (k_Number_bool : PySem.W.keepIn K (.ref f_Number_bool) = true)
    (a_whole : PySem.W.nsIn K mainGlobals "whole" = some (some (.ref f_whole)))
    (l_whole : K.lookup f_whole = some ⟨oc_whole, od_whole, .func (PySem.W.fnOf "whole" "whole" (defArgs s_whole) (defBody s_whole) (defScope s_whole) .none kV_whole dc_whole pm_whole an_whole cd_whole ct_whole), osl_whole⟩)
    (hc_whole : PySem.W.codeIn K cd_whole "whole" = true)
    (k_whole : PySem.W.keepIn K (.ref f_whole) = true)
    (a_Line_init : PySem.W.findIn K (.ref c_Line) "__init__" = some (some (.ref f_Line_init)))
    (i_Line_init : PySem.W.isFn K (.ref f_Line_init) = true)
    (l_Line_init : K.lookup f_Line_init = some ⟨oc_Line_init, od_Line_init, .func (PySem.W.fnOf "__init__" "Line.__init__" (defArgs s_Line_init) (defBody s_Line_init) (defScope s_Line_init) .none kV_Line_init dc_Line_init pm_Line_init an_Line_init cd_Line_init ct_Line_init), osl_Line_init⟩)
    (hc_Line_init : PySem.W.codeIn K cd_Line_init "Line.__init__" = true)
    (k_Line_init : PySem.W.keepIn K (.ref f_Line_init) = true)
    (at_Line_base : PySem.W.findIn K (.ref c_Line) "base" = some (some (.ref p_Line_base)))
    (gt_Line_base : PySem.W.specialIn K (.ref p_Line_base) "__get__" = some (some (.builtin "property.__get__")))
    (tk_Line_base : PySem.W.takesIn K (.ref p_Line_base) = some true)
    (rc_Line_base : PySem.W.recIn K p_Line_base "property" = some (.ref f_Line_base :: r_Line_base))
    (l_Line_base : K.lookup f_Line_base = some ⟨oc_Line_base, od_Line_base, .func (PySem.W.fnOf "base" "Line.base" (defArgs s_Line_base) (defBody s_Line_base) (defScope s_Line_base) .none kV_Line_base dc_Line_base pm_Line_base an_Line_base cd_Line_base ct_Line_base), osl_Line_base⟩)
    (hc_Line_base : PySem.W.codeIn K cd_Line_base "Line.base" = true)
    (k_Line_base : PySem.W.keepIn K (.ref f_Line_base) = true)
    (at_Line_slope : PySem.W.findIn K (.ref c_Line) "slope" = some (some (.ref p_Line_slope)))
    (gt_Line_slope : PySem.W.specialIn K (.ref p_Line_slope) "__get__" = some (some (.builtin "property.__get__")))
    (tk_Line_slope : PySem.W.takesIn K (.ref p_Line_slope) = some true)
    (rc_Line_slope : PySem.W.recIn K p_Line_slope "property" = some (.ref f_Line_slope :: r_Line_slope))
    (l_Line_slope : K.lookup f_Line_slope = some ⟨oc_Line_slope, od_Line_slope, .func (PySem.W.fnOf "slope" "Line.slope" (defArgs s_Line_slope) (defBody s_Line_slope) (defScope s_Line_slope) .none kV_Line_slope dc_Line_slope pm_Line_slope an_Line_slope cd_Line_slope ct_Line_slope), osl_Line_slope⟩)
    (hc_Line_slope : PySem.W.codeIn K cd_Line_slope "Line.slope" = true)
    (k_Line_slope : PySem.W.keepIn K (.ref f_Line_slope) = true)
    (a_Stretch_init : PySem.W.findIn K (.ref c_Stretch) "__init__" = some (some (.ref f_Stretch_init)))
    (i_Stretch_init : PySem.W.isFn K (.ref f_Stretch_init) = true)
    (l_Stretch_init : K.lookup f_Stretch_init = some ⟨oc_Stretch_init, od_Stretch_init, .func (PySem.W.fnOf "__init__" "Stretch.__init__" (defArgs s_Stretch_init) (defBody s_Stretch_init) (defScope s_Stretch_init) .none (.ref D_Stretch_init) dc_Stretch_init pm_Stretch_init an_Stretch_init cd_Stretch_init ct_Stretch_init), osl_Stretch_init⟩)
    (hc_Stretch_init : PySem.W.codeIn K cd_Stretch_init "Stretch.__init__" = true)
    (k_Stretch_init : PySem.W.keepIn K (.ref f_Stretch_init) = true)
    (kw_Stretch_init_has_low : PySem.W.nsIn K D_Stretch_init "has_low" = some (some (.bool true)))
    (kw_Stretch_init_has_high : PySem.W.nsIn K D_Stretch_init "has_high" = some (some (.bool true)))
    (at_Stretch_low : PySem.W.findIn K (.ref c_Stretch) "low" = some (some (.ref p_Stretch_low)))
    (gt_Stretch_low : PySem.W.specialIn K (.ref p_Stretch_low) "__get__" = some (some (.builtin "property.__get__")))
    (tk_Stretch_low : PySem.W.takesIn K (.ref p_Stretch_low) = some true)
    (rc_Stretch_low : PySem.W.recIn K p_Stretch_low "property" = some (.ref f_Stretch_low :: r_Stretch_low))
    (l_Stretch_low : K.lookup f_Stretch_low = some ⟨oc_Stretch_low, od_Stretch_low, .func (PySem.W.fnOf "low" "Stretch.low" (defArgs s_Stretch_low) (defBody s_Stretch_low) (defScope s_Stretch_low) .none kV_Stretch_low dc_Stretch_low pm_Stretch_low an_Stretch_low cd_Stretch_low ct_Stretch_low), osl_Stretch_low⟩)
    (hc_Stretch_low : PySem.W.codeIn K cd_Stretch_low "Stretch.low" = true)
    (k_Stretch_low : PySem.W.keepIn K (.ref f_Stretch_low) = true)
    (at_Stretch_high : PySem.W.findIn K (.ref c_Stretch) "high" = some (some (.ref p_Stretch_high)))
    (gt_Stretch_high : PySem.W.specialIn K (.ref p_Stretch_high) "__get__" = some (some (.builtin "property.__get__")))
    (tk_Stretch_high : PySem.W.takesIn K (.ref p_Stretch_high) = some true)
    (rc_Stretch_high : PySem.W.recIn K p_Stretch_high "property" = some (.ref f_Stretch_high :: r_Stretch_high))
    (l_Stretch_high : K.lookup f_Stretch_high = some ⟨oc_Stretch_high, od_Stretch_high, .func (PySem.W.fnOf "high" "Stretch.high" (defArgs s_Stretch_high) (defBody s_Stretch_high) (defScope s_Stretch_high) .none kV_Stretch_high dc_Stretch_high pm_Stretch_high an_Stretch_high cd_Stretch_high ct_Stretch_high), osl_Stretch_high⟩)
    (hc_Stretch_high : PySem.W.codeIn K cd_Stretch_high "Stretch.high" = true)
    (k_Stretch_high : PySem.W.keepIn K (.ref f_Stretch_high) = true)
    (at_Stretch_has_low : PySem.W.findIn K (.ref c_Stretch) "has_low" = some (some (.ref p_Stretch_has_low)))
    (gt_Stretch_has_low : PySem.W.specialIn K (.ref p_Stretch_has_low) "__get__" = some (some (.builtin "property.__get__")))
    (tk_Stretch_has_low : PySem.W.takesIn K (.ref p_Stretch_has_low) = some true)
    (rc_Stretch_has_low : PySem.W.recIn K p_Stretch_has_low "property" = some (.ref f_Stretch_has_low :: r_Stretch_has_low))
    (l_Stretch_has_low : K.lookup f_Stretch_has_low = some ⟨oc_Stretch_has_low, od_Stretch_has_low, .func (PySem.W.fnOf "has_low" "Stretch.has_low" (defArgs s_Stretch_has_low) (defBody s_Stretch_has_low) (defScope s_Stretch_has_low) .none kV_Stretch_has_low dc_Stretch_has_low pm_Stretch_has_low an_Stretch_has_low cd_Stretch_has_low ct_Stretch_has_low), osl_Stretch_has_low⟩)
    (hc_Stretch_has_low : PySem.W.codeIn K cd_Stretch_has_low "Stretch.has_low" = true)
    (k_Stretch_has_low : PySem.W.keepIn K (.ref f_Stretch_has_low) = true)
    (at_Stretch_has_high : PySem.W.findIn K (.ref c_Stretch) "has_high" = some (some (.ref p_Stretch_has_high)))
    (gt_Stretch_has_high : PySem.W.specialIn K (.ref p_Stretch_has_high) "__get__" = some (some (.builtin "property.__get__")))
    (tk_Stretch_has_high : PySem.W.takesIn K (.ref p_Stretch_has_high) = some true)
    (rc_Stretch_has_high : PySem.W.recIn K p_Stretch_has_high "property" = some (.ref f_Stretch_has_high :: r_Stretch_has_high))
    (l_Stretch_has_high : K.lookup f_Stretch_has_high = some ⟨oc_Stretch_has_high, od_Stretch_has_high, .func (PySem.W.fnOf "has_high" "Stretch.has_high" (defArgs s_Stretch_has_high) (defBody s_Stretch_has_high) (defScope s_Stretch_has_high) .none kV_Stretch_has_high dc_Stretch_has_high pm_Stretch_has_high an_Stretch_has_high cd_Stretch_has_high ct_Stretch_has_high), osl_Stretch_has_high⟩)
    (hc_Stretch_has_high : PySem.W.codeIn K cd_Stretch_has_high "Stretch.has_high" = true)
    (k_Stretch_has_high : PySem.W.keepIn K (.ref f_Stretch_has_high) = true)
    (a_show_number : PySem.W.nsIn K mainGlobals "show_number" = some (some (.ref f_show_number)))
    (l_show_number : K.lookup f_show_number = some ⟨oc_show_number, od_show_number, .func (PySem.W.fnOf "show_number" "show_number" (defArgs s_show_number) (defBody s_show_number) (defScope s_show_number) .none kV_show_number dc_show_number pm_show_number an_show_number cd_show_number ct_show_number), osl_show_number⟩)
    (hc_show_number : PySem.W.codeIn K cd_show_number "show_number" = true)
    (k_show_number : PySem.W.keepIn K (.ref f_show_number) = true)
    (a_show_line : PySem.W.nsIn K mainGlobals "show_line" = some (some (.ref f_show_line)))
    (l_show_line : K.lookup f_show_line = some ⟨oc_show_line, od_show_line, .func (PySem.W.fnOf "show_line" "show_line" (defArgs s_show_line) (defBody s_show_line) (defScope s_show_line) .none kV_show_line dc_show_line pm_show_line an_show_line cd_show_line ct_show_line), osl_show_line⟩)
    (hc_show_line : PySem.W.codeIn K cd_show_line "show_line" = true)
    (k_show_line : PySem.W.keepIn K (.ref f_show_line) = true)
    (a_show_stretch : PySem.W.nsIn K mainGlobals "show_stretch" = some (some (.ref f_show_stretch)))
    (l_show_stretch : K.lookup f_show_stretch = some ⟨oc_show_stretch, od_show_stretch, .func (PySem.W.fnOf "show_stretch" "show_stretch" (defArgs s_show_stretch) (defBody s_show_stretch) (defScope s_show_stretch) .none kV_show_stretch dc_show_stretch pm_show_stretch an_show_stretch cd_show_stretch ct_show_stretch), osl_show_stretch⟩)
    (hc_show_stretch : PySem.W.codeIn K cd_show_stretch "show_stretch" = true)
    (k_show_stretch : PySem.W.keepIn K (.ref f_show_stretch) = true)
    (a_digits_in : PySem.W.nsIn K mainGlobals "digits_in" = some (some (.ref f_digits_in)))
    (l_digits_in : K.lookup f_digits_in = some ⟨oc_digits_in, od_digits_in, .func (PySem.W.fnOf "digits_in" "digits_in" (defArgs s_digits_in) (defBody s_digits_in) (defScope s_digits_in) .none kV_digits_in dc_digits_in pm_digits_in an_digits_in cd_digits_in ct_digits_in), osl_digits_in⟩)
    (hc_digits_in : PySem.W.codeIn K cd_digits_in "digits_in" = true)
    (k_digits_in : PySem.W.keepIn K (.ref f_digits_in) = true)
    (a_number_in : PySem.W.nsIn K mainGlobals "number_in" = some (some (.ref f_number_in)))
    (l_number_in : K.lookup f_number_in = some ⟨oc_number_in, od_number_in, .func (PySem.W.fnOf "number_in" "number_in" (defArgs s_number_in) (defBody s_number_in) (defScope s_number_in) .none kV_number_in dc_number_in pm_number_in an_number_in cd_number_in ct_number_in), osl_number_in⟩)
    (hc_number_in : PySem.W.codeIn K cd_number_in "number_in" = true)
    (k_number_in : PySem.W.keepIn K (.ref f_number_in) = true)
    (a_slope_in : PySem.W.nsIn K mainGlobals "slope_in" = some (some (.ref f_slope_in)))
    (l_slope_in : K.lookup f_slope_in = some ⟨oc_slope_in, od_slope_in, .func (PySem.W.fnOf "slope_in" "slope_in" (defArgs s_slope_in) (defBody s_slope_in) (defScope s_slope_in) .none kV_slope_in dc_slope_in pm_slope_in an_slope_in cd_slope_in ct_slope_in), osl_slope_in⟩)
    (hc_slope_in : PySem.W.codeIn K cd_slope_in "slope_in" = true)
    (k_slope_in : PySem.W.keepIn K (.ref f_slope_in) = true)
    (a_line_in : PySem.W.nsIn K mainGlobals "line_in" = some (some (.ref f_line_in)))
    (l_line_in : K.lookup f_line_in = some ⟨oc_line_in, od_line_in, .func (PySem.W.fnOf "line_in" "line_in" (defArgs s_line_in) (defBody s_line_in) (defScope s_line_in) .none kV_line_in dc_line_in pm_line_in an_line_in cd_line_in ct_line_in), osl_line_in⟩)
    (hc_line_in : PySem.W.codeIn K cd_line_in "line_in" = true)
    (k_line_in : PySem.W.keepIn K (.ref f_line_in) = true)
    (a_stretch_in : PySem.W.nsIn K mainGlobals "stretch_in" = some (some (.ref f_stretch_in)))
    (l_stretch_in : K.lookup f_stretch_in = some ⟨oc_stretch_in, od_stretch_in, .func (PySem.W.fnOf "stretch_in" "stretch_in" (defArgs s_stretch_in) (defBody s_stretch_in) (defScope s_stretch_in) .none kV_stretch_in dc_stretch_in pm_stretch_in an_stretch_in cd_stretch_in ct_stretch_in), osl_stretch_in⟩)
    (hc_stretch_in : PySem.W.codeIn K cd_stretch_in "stretch_in" = true)
    (k_stretch_in : PySem.W.keepIn K (.ref f_stretch_in) = true)
    (a_read_by : PySem.W.nsIn K mainGlobals "read_by" = some (some (.ref f_read_by)))
    (l_read_by : K.lookup f_read_by = some ⟨oc_read_by, od_read_by, .func (PySem.W.fnOf "read_by" "read_by" (defArgs s_read_by) (defBody s_read_by) (defScope s_read_by) .none kV_read_by dc_read_by pm_read_by an_read_by cd_read_by ct_read_by), osl_read_by⟩)
    (hc_read_by : PySem.W.codeIn K cd_read_by "read_by" = true)
    (k_read_by : PySem.W.keepIn K (.ref f_read_by) = true)
    (a_read_number : PySem.W.nsIn K mainGlobals "read_number" = some (some (.ref f_read_number)))
    (l_read_number : K.lookup f_read_number = some ⟨oc_read_number, od_read_number, .func (PySem.W.fnOf "read_number" "read_number" (defArgs s_read_number) (defBody s_read_number) (defScope s_read_number) .none kV_read_number dc_read_number pm_read_number an_read_number cd_read_number ct_read_number), osl_read_number⟩)
    (hc_read_number : PySem.W.codeIn K cd_read_number "read_number" = true)
    (k_read_number : PySem.W.keepIn K (.ref f_read_number) = true)
    (a_read_line : PySem.W.nsIn K mainGlobals "read_line" = some (some (.ref f_read_line)))
    (l_read_line : K.lookup f_read_line = some ⟨oc_read_line, od_read_line, .func (PySem.W.fnOf "read_line" "read_line" (defArgs s_read_line) (defBody s_read_line) (defScope s_read_line) .none kV_read_line dc_read_line pm_read_line an_read_line cd_read_line ct_read_line), osl_read_line⟩)
    (hc_read_line : PySem.W.codeIn K cd_read_line "read_line" = true)
    (k_read_line : PySem.W.keepIn K (.ref f_read_line) = true)
    (a_read_stretch : PySem.W.nsIn K mainGlobals "read_stretch" = some (some (.ref f_read_stretch)))
    (l_read_stretch : K.lookup f_read_stretch = some ⟨oc_read_stretch, od_read_stretch, .func (PySem.W.fnOf "read_stretch" "read_stretch" (defArgs s_read_stretch) (defBody s_read_stretch) (defScope s_read_stretch) .none kV_read_stretch dc_read_stretch pm_read_stretch an_read_stretch cd_read_stretch ct_read_stretch), osl_read_stretch⟩)
    (hc_read_stretch : PySem.W.codeIn K cd_read_stretch "read_stretch" = true)
    (k_read_stretch : PySem.W.keepIn K (.ref f_read_stretch) = true)
    (a_law_pot : PySem.W.nsIn K mainGlobals "_law_pot" = some (some (.ref f_law_pot)))
    (l_law_pot : K.lookup f_law_pot = some ⟨oc_law_pot, od_law_pot, .func (PySem.W.fnOf "_law_pot" "_law_pot" (defArgs s_law_pot) (defBody s_law_pot) (defScope s_law_pot) .none kV_law_pot dc_law_pot pm_law_pot an_law_pot cd_law_pot ct_law_pot), osl_law_pot⟩)
    (hc_law_pot : PySem.W.codeIn K cd_law_pot "_law_pot" = true)
    (k_law_pot : PySem.W.keepIn K (.ref f_law_pot) = true)
    (a_law_take : PySem.W.nsIn K mainGlobals "_law_take" = some (some (.ref f_law_take)))
    (l_law_take : K.lookup f_law_take = some ⟨oc_law_take, od_law_take, .func (PySem.W.fnOf "_law_take" "_law_take" (defArgs s_law_take) (defBody s_law_take) (defScope s_law_take) .none kV_law_take dc_law_take pm_law_take an_law_take cd_law_take ct_law_take), osl_law_take⟩)
    (hc_law_take : PySem.W.codeIn K cd_law_take "_law_take" = true)
    (k_law_take : PySem.W.keepIn K (.ref f_law_take) = true)
    (a_law_of : PySem.W.nsIn K mainGlobals "_law_of" = some (some (.ref f_law_of)))
    (l_law_of : K.lookup f_law_of = some ⟨oc_law_of, od_law_of, .func (PySem.W.fnOf "_law_of" "_law_of" (defArgs s_law_of) (defBody s_law_of) (defScope s_law_of) .none kV_law_of dc_law_of pm_law_of an_law_of cd_law_of ct_law_of), osl_law_of⟩)
    (hc_law_of : PySem.W.codeIn K cd_law_of "_law_of" = true)
    (k_law_of : PySem.W.keepIn K (.ref f_law_of) = true)
    (a_law_digits : PySem.W.nsIn K mainGlobals "_law_digits" = some (some (.ref f_law_digits)))
    (l_law_digits : K.lookup f_law_digits = some ⟨oc_law_digits, od_law_digits, .func (PySem.W.fnOf "_law_digits" "_law_digits" (defArgs s_law_digits) (defBody s_law_digits) (defScope s_law_digits) .none kV_law_digits dc_law_digits pm_law_digits an_law_digits cd_law_digits ct_law_digits), osl_law_digits⟩)
    (hc_law_digits : PySem.W.codeIn K cd_law_digits "_law_digits" = true)
    (k_law_digits : PySem.W.keepIn K (.ref f_law_digits) = true)
    (a_law_lowest : PySem.W.nsIn K mainGlobals "_law_lowest" = some (some (.ref f_law_lowest)))
    (l_law_lowest : K.lookup f_law_lowest = some ⟨oc_law_lowest, od_law_lowest, .func (PySem.W.fnOf "_law_lowest" "_law_lowest" (defArgs s_law_lowest) (defBody s_law_lowest) (defScope s_law_lowest) .none kV_law_lowest dc_law_lowest pm_law_lowest an_law_lowest cd_law_lowest ct_law_lowest), osl_law_lowest⟩)
    (hc_law_lowest : PySem.W.codeIn K cd_law_lowest "_law_lowest" = true)
    (k_law_lowest : PySem.W.keepIn K (.ref f_law_lowest) = true)
    (a_law_pair : PySem.W.nsIn K mainGlobals "_law_pair" = some (some (.ref f_law_pair)))
    (l_law_pair : K.lookup f_law_pair = some ⟨oc_law_pair, od_law_pair, .func (PySem.W.fnOf "_law_pair" "_law_pair" (defArgs s_law_pair) (defBody s_law_pair) (defScope s_law_pair) .none kV_law_pair dc_law_pair pm_law_pair an_law_pair cd_law_pair ct_law_pair), osl_law_pair⟩)
    (hc_law_pair : PySem.W.codeIn K cd_law_pair "_law_pair" = true)
    (k_law_pair : PySem.W.keepIn K (.ref f_law_pair) = true)
    (a_law_number_text : PySem.W.nsIn K mainGlobals "_law_number_text" = some (some (.ref f_law_number_text)))
    (l_law_number_text : K.lookup f_law_number_text = some ⟨oc_law_number_text, od_law_number_text, .func (PySem.W.fnOf "_law_number_text" "_law_number_text" (defArgs s_law_number_text) (defBody s_law_number_text) (defScope s_law_number_text) .none kV_law_number_text dc_law_number_text pm_law_number_text an_law_number_text cd_law_number_text ct_law_number_text), osl_law_number_text⟩)
    (hc_law_number_text : PySem.W.codeIn K cd_law_number_text "_law_number_text" = true)
    (k_law_number_text : PySem.W.keepIn K (.ref f_law_number_text) = true)
    (a_law_line_text : PySem.W.nsIn K mainGlobals "_law_line_text" = some (some (.ref f_law_line_text)))
    (l_law_line_text : K.lookup f_law_line_text = some ⟨oc_law_line_text, od_law_line_text, .func (PySem.W.fnOf "_law_line_text" "_law_line_text" (defArgs s_law_line_text) (defBody s_law_line_text) (defScope s_law_line_text) .none kV_law_line_text dc_law_line_text pm_law_line_text an_law_line_text cd_law_line_text ct_law_line_text), osl_law_line_text⟩)
    (hc_law_line_text : PySem.W.codeIn K cd_law_line_text "_law_line_text" = true)
    (k_law_line_text : PySem.W.keepIn K (.ref f_law_line_text) = true)
    (a_law_is_digits : PySem.W.nsIn K mainGlobals "_law_is_digits" = some (some (.ref f_law_is_digits)))
    (l_law_is_digits : K.lookup f_law_is_digits = some ⟨oc_law_is_digits, od_law_is_digits, .func (PySem.W.fnOf "_law_is_digits" "_law_is_digits" (defArgs s_law_is_digits) (defBody s_law_is_digits) (defScope s_law_is_digits) .none kV_law_is_digits dc_law_is_digits pm_law_is_digits an_law_is_digits cd_law_is_digits ct_law_is_digits), osl_law_is_digits⟩)
    (hc_law_is_digits : PySem.W.codeIn K cd_law_is_digits "_law_is_digits" = true)
    (k_law_is_digits : PySem.W.keepIn K (.ref f_law_is_digits) = true)
    (a_law_number_of : PySem.W.nsIn K mainGlobals "_law_number_of" = some (some (.ref f_law_number_of)))
    (l_law_number_of : K.lookup f_law_number_of = some ⟨oc_law_number_of, od_law_number_of, .func (PySem.W.fnOf "_law_number_of" "_law_number_of" (defArgs s_law_number_of) (defBody s_law_number_of) (defScope s_law_number_of) .none kV_law_number_of dc_law_number_of pm_law_number_of an_law_number_of cd_law_number_of ct_law_number_of), osl_law_number_of⟩)
    (hc_law_number_of : PySem.W.codeIn K cd_law_number_of "_law_number_of" = true)
    (k_law_number_of : PySem.W.keepIn K (.ref f_law_number_of) = true)
    (a_law_is_line : PySem.W.nsIn K mainGlobals "_law_is_line" = some (some (.ref f_law_is_line)))
    (l_law_is_line : K.lookup f_law_is_line = some ⟨oc_law_is_line, od_law_is_line, .func (PySem.W.fnOf "_law_is_line" "_law_is_line" (defArgs s_law_is_line) (defBody s_law_is_line) (defScope s_law_is_line) .none kV_law_is_line dc_law_is_line pm_law_is_line an_law_is_line cd_law_is_line ct_law_is_line), osl_law_is_line⟩)
    (hc_law_is_line : PySem.W.codeIn K cd_law_is_line "_law_is_line" = true)
    (k_law_is_line : PySem.W.keepIn K (.ref f_law_is_line) = true)
    (a_law_is_stretch : PySem.W.nsIn K mainGlobals "_law_is_stretch" = some (some (.ref f_law_is_stretch)))
    (l_law_is_stretch : K.lookup f_law_is_stretch = some ⟨oc_law_is_stretch, od_law_is_stretch, .func (PySem.W.fnOf "_law_is_stretch" "_law_is_stretch" (defArgs s_law_is_stretch) (defBody s_law_is_stretch) (defScope s_law_is_stretch) .none kV_law_is_stretch dc_law_is_stretch pm_law_is_stretch an_law_is_stretch cd_law_is_stretch ct_law_is_stretch), osl_law_is_stretch⟩)
    (hc_law_is_stretch : PySem.W.codeIn K cd_law_is_stretch "_law_is_stretch" = true)
    (k_law_is_stretch : PySem.W.keepIn K (.ref f_law_is_stretch) = true)
    (a_law_due : PySem.W.nsIn K mainGlobals "_law_due" = some (some (.ref f_law_due)))
    (l_law_due : K.lookup f_law_due = some ⟨oc_law_due, od_law_due, .func (PySem.W.fnOf "_law_due" "_law_due" (defArgs s_law_due) (defBody s_law_due) (defScope s_law_due) .none kV_law_due dc_law_due pm_law_due an_law_due cd_law_due ct_law_due), osl_law_due⟩)
    (hc_law_due : PySem.W.codeIn K cd_law_due "_law_due" = true)
    (k_law_due : PySem.W.keepIn K (.ref f_law_due) = true)
    (a_law_read : PySem.W.nsIn K mainGlobals "_law_read" = some (some (.ref f_law_read)))
    (l_law_read : K.lookup f_law_read = some ⟨oc_law_read, od_law_read, .func (PySem.W.fnOf "_law_read" "_law_read" (defArgs s_law_read) (defBody s_law_read) (defScope s_law_read) .none kV_law_read dc_law_read pm_law_read an_law_read cd_law_read ct_law_read), osl_law_read⟩)
    (hc_law_read : PySem.W.codeIn K cd_law_read "_law_read" = true)
    (k_law_read : PySem.W.keepIn K (.ref f_law_read) = true)
    (a_law_is_right : PySem.W.nsIn K mainGlobals "_law_is_right" = some (some (.ref f_law_is_right)))
    (l_law_is_right : K.lookup f_law_is_right = some ⟨oc_law_is_right, od_law_is_right, .func (PySem.W.fnOf "_law_is_right" "_law_is_right" (defArgs s_law_is_right) (defBody s_law_is_right) (defScope s_law_is_right) .none kV_law_is_right dc_law_is_right pm_law_is_right an_law_is_right cd_law_is_right ct_law_is_right), osl_law_is_right⟩)
    (hc_law_is_right : PySem.W.codeIn K cd_law_is_right "_law_is_right" = true)
    (k_law_is_right : PySem.W.keepIn K (.ref f_law_is_right) = true)
    (a_law_bent : PySem.W.nsIn K mainGlobals "_law_bent" = some (some (.ref f_law_bent)))
    (l_law_bent : K.lookup f_law_bent = some ⟨oc_law_bent, od_law_bent, .func (PySem.W.fnOf "_law_bent" "_law_bent" (defArgs s_law_bent) (defBody s_law_bent) (defScope s_law_bent) .none kV_law_bent dc_law_bent pm_law_bent an_law_bent cd_law_bent ct_law_bent), osl_law_bent⟩)
    (hc_law_bent : PySem.W.codeIn K cd_law_bent "_law_bent" = true)
    (k_law_bent : PySem.W.keepIn K (.ref f_law_bent) = true)
    (a_law_drawn : PySem.W.nsIn K mainGlobals "_law_drawn" = some (some (.ref f_law_drawn)))
    (l_law_drawn : K.lookup f_law_drawn = some ⟨oc_law_drawn, od_law_drawn, .func (PySem.W.fnOf "_law_drawn" "_law_drawn" (defArgs s_law_drawn) (defBody s_law_drawn) (defScope s_law_drawn) .none kV_law_drawn dc_law_drawn pm_law_drawn an_law_drawn cd_law_drawn ct_law_drawn), osl_law_drawn⟩)
    (hc_law_drawn : PySem.W.codeIn K cd_law_drawn "_law_drawn" = true)
    (k_law_drawn : PySem.W.keepIn K (.ref f_law_drawn) = true)
    (a_law : PySem.W.nsIn K mainGlobals "law" = some (some (.ref f_law)))
    (l_law : K.lookup f_law = some ⟨oc_law, od_law, .func (PySem.W.fnOf "law" "law" (defArgs s_law) (defBody s_law) (defScope s_law) .none kV_law dc_law pm_law an_law cd_law ct_law), osl_law⟩)
    (hc_law : PySem.W.codeIn K cd_law "law" = true)
    (k_law : PySem.W.keepIn K (.ref f_law) = true)
    (cs_BLANK : PySem.W.nsIn K mainGlobals "BLANK" = some (some (.str " " ct_BLANK)))
    (cs_STROKE : PySem.W.nsIn K mainGlobals "STROKE" = some (some (.str "/" ct_STROKE)))
    (cs_MINUS : PySem.W.nsIn K mainGlobals "MINUS" = some (some (.str "-" ct_MINUS)))
    (cs_PLUS : PySem.W.nsIn K mainGlobals "PLUS" = some (some (.str "+" ct_PLUS)))
    (cs_OF_SPEED : PySem.W.nsIn K mainGlobals "OF_SPEED" = some (some (.str "s" ct_OF_SPEED)))
    (cs_DIGITS : PySem.W.nsIn K mainGlobals "DIGITS" = some (some (.str "0123456789" ct_DIGITS)))
    (cs_MOST_DIGITS : PySem.W.nsIn K mainGlobals "MOST_DIGITS" = some (some (.int 30 ct_MOST_DIGITS)))
    (cs_THREE : PySem.W.nsIn K mainGlobals "THREE" = some (some (.int 3 ct_THREE)))
    (cs_OPENING : PySem.W.nsIn K mainGlobals "OPENING" = some (some (.ref D_OPENING)))
    (dl_OPENING : K.lookup D_OPENING = some ⟨.type "dict", none, .dict es_OPENING nn_OPENING, #[]⟩)
    (dk_OPENING : PySem.W.KeysLit w.params es_OPENING.toList)
    (de_OPENING : ∃ (h0 : _) (h1 : _) (t0 : Tok) (t1 : Tok), es_OPENING.toList = [⟨h0, .str "[" t0, .bool true⟩, ⟨h1, .str "(" t1, .bool false⟩])
    (dm_OPENING : (D_OPENING == sysModules) = false)
    (dv_OPENING_0 : PySem.W.nsIn K D_OPENING "[" = some (some (.bool true)))
    (dv_OPENING_1 : PySem.W.nsIn K D_OPENING "(" = some (some (.bool false)))
    (cs_CLOSING : PySem.W.nsIn K mainGlobals "CLOSING" = some (some (.ref D_CLOSING)))
    (dl_CLOSING : K.lookup D_CLOSING = some ⟨.type "dict", none, .dict es_CLOSING nn_CLOSING, #[]⟩)
    (dk_CLOSING : PySem.W.KeysLit w.params es_CLOSING.toList)
    (de_CLOSING : ∃ (h0 : _) (h1 : _) (t0 : Tok) (t1 : Tok), es_CLOSING.toList = [⟨h0, .str "]" t0, .bool true⟩, ⟨h1, .str ")" t1, .bool false⟩])
    (dm_CLOSING : (D_CLOSING == sysModules) = false)
    (dv_CLOSING_0 : PySem.W.nsIn K D_CLOSING "]" = some (some (.bool true)))
    (dv_CLOSING_1 : PySem.W.nsIn K D_CLOSING ")" = some (some (.bool false)))
    (z_isinstance : PySem.W.nsIn K mainGlobals "isinstance" = some none)
    (z_int : PySem.W.nsIn K mainGlobals "int" = some none)
    (z_bool : PySem.W.nsIn K mainGlobals "bool" = some none)
    (z_abs : PySem.W.nsIn K mainGlobals "abs" = some none)
    (z_len : PySem.W.nsIn K mainGlobals "len" = some none)
    (z_max : PySem.W.nsIn K mainGlobals "max" = some none)
    (z_min : PySem.W.nsIn K mainGlobals "min" = some none)
    (z_range : PySem.W.nsIn K mainGlobals "range" = some none)
    (z_all : PySem.W.nsIn K mainGlobals "all" = some none)
    (z_str : PySem.W.nsIn K mainGlobals "str" = some none)
    (kit_NumNum : PySem.W.kitOne K (.ref c_Number) (.ref c_Number) = some true)
    (kit_LinLin : PySem.W.kitOne K (.ref c_Line) (.ref c_Line) = some true)
    (kit_StrStr : PySem.W.kitOne K (.ref c_Stretch) (.ref c_Stretch) = some true)
    (kit_blbl : PySem.W.kitOne K (.type "bool") (.type "bool") = some true)
    (kit_BT : PySem.W.kitOne K (.ref c_BadText) (.ref c_BadText) = some true)
    (kit_strstr : PySem.W.kitOne K (.type "str") (.type "str") = some true)
    (kit_nonstr : PySem.W.kitOne K (.type "NoneType") (.type "str") = some false)
    (kit_nonbl : PySem.W.kitOne K (.type "NoneType") (.type "bool") = some false)
    (kit_blstr : PySem.W.kitOne K (.type "bool") (.type "str") = some false)
    (kit_intstr : PySem.W.kitOne K (.type "int") (.type "str") = some false)
    (kit_intbl : PySem.W.kitOne K (.type "int") (.type "bool") = some false)
    (kit_tupstr : PySem.W.kitOne K (.type "tuple") (.type "str") = some false)
    (kit_tupbl : PySem.W.kitOne K (.type "tuple") (.type "bool") = some false)
    (kit_lststr : PySem.W.kitOne K (.type "list") (.type "str") = some false)
    (kit_lstbl : PySem.W.kitOne K (.type "list") (.type "bool") = some false)
    (kit_dctstr : PySem.W.kitOne K (.type "dict") (.type "str") = some false)
    (kit_dctbl : PySem.W.kitOne K (.type "dict") (.type "bool") = some false)
    (kit_strbl : PySem.W.kitOne K (.type "str") (.type "bool") = some false)
    : ∃ fd : FuncData, (∀ (s : Shared) (v : Value), BindsTo s fd ⟨[v], []⟩ [("script", v)]) ∧ ∀ base : Heap, K.In base → base.Ns mainGlobals mg → FnOk PP w K mg base CX0 LV fa fd ["script"] (spLaw K) := by
  obtain ⟨A, eA, T⟩ := all_mk X G a_SpeedError a_BadStretch a_BadText a_Number pg_Number hd_Number po_Number sa_Number mk_Number kc_Number sf_Number ca_Number cm_Number n_Number_own_top n_Number_own_bottom a_Line pg_Line hd_Line po_Line sa_Line mk_Line kc_Line sf_Line ca_Line cm_Line n_Line_own_base n_Line_own_slope a_Stretch pg_Stretch hd_Stretch po_Stretch sa_Stretch mk_Stretch kc_Stretch sf_Stretch ca_Stretch cm_Stretch n_Stretch_own_low n_Stretch_own_high n_Stretch_includes_low n_Stretch_includes_high n_Stretch_own_middle cn ct z_super tp_any lC_BadStretch rv_BadStretch sa_BadStretch ex_BadStretch ty_BadStretch kc_BadStretch in_BadStretch ti_BadStretch lf_BadStretch hc_BadStretch lk_BadStretch vs_BadStretch fi_BadStretch lc_BadStretch ms_BadStretch sv_BadStretch sp_BadStretch no_BadStretch ga_BadStretch gg_BadStretch hd_BadStretch ca_BadStretch cm_BadStretch su_BadStretch_SpeedError ic_SpeedError sb_SpeedError tt_SpeedError su_BadStretch_BadStretch ic_BadStretch sb_BadStretch tt_BadStretch lC_BadText rv_BadText sa_BadText ex_BadText ty_BadText kc_BadText in_BadText ti_BadText lf_BadText hc_BadText lk_BadText vs_BadText fi_BadText lc_BadText ms_BadText sv_BadText sp_BadText no_BadText ga_BadText gg_BadText hd_BadText ca_BadText cm_BadText su_BadText_SpeedError a_is_integer l_is_integer hc_is_integer k_is_integer a_shared_divisor l_shared_divisor hc_shared_divisor k_shared_divisor a_Number_init i_Number_init l_Number_init hc_Number_init k_Number_init lT_Number_init at_Number_top gt_Number_top tk_Number_top rc_Number_top l_Number_top hc_Number_top k_Number_top at_Number_bottom gt_Number_bottom tk_Number_bottom rc_Number_bottom l_Number_bottom hc_Number_bottom k_Number_bottom a_Number_eq i_Number_eq l_Number_eq hc_Number_eq k_Number_eq a_Number_is_less i_Number_is_less l_Number_is_less hc_Number_is_less k_Number_is_less a_Number_add i_Number_add l_Number_add hc_Number_add k_Number_add a_Number_sub i_Number_sub l_Number_sub hc_Number_sub k_Number_sub a_Number_divided_by i_Number_divided_by l_Number_divided_by hc_Number_divided_by k_Number_divided_by a_Number_neg i_Number_neg l_Number_neg hc_Number_neg k_Number_neg a_Number_abs i_Number_abs l_Number_abs hc_Number_abs k_Number_abs a_Number_bool i_Number_bool l_Number_bool hc_Number_bool k_Number_bool a_whole l_whole hc_whole k_whole a_Line_init i_Line_init l_Line_init hc_Line_init k_Line_init at_Line_base gt_Line_base tk_Line_base rc_Line_base l_Line_base hc_Line_base k_Line_base at_Line_slope gt_Line_slope tk_Line_slope rc_Line_slope l_Line_slope hc_Line_slope k_Line_slope a_Stretch_init i_Stretch_init l_Stretch_init hc_Stretch_init k_Stretch_init kw_Stretch_init_has_low kw_Stretch_init_has_high at_Stretch_low gt_Stretch_low tk_Stretch_low rc_Stretch_low l_Stretch_low hc_Stretch_low k_Stretch_low at_Stretch_high gt_Stretch_high tk_Stretch_high rc_Stretch_high l_Stretch_high hc_Stretch_high k_Stretch_high at_Stretch_has_low gt_Stretch_has_low tk_Stretch_has_low rc_Stretch_has_low l_Stretch_has_low hc_Stretch_has_low k_Stretch_has_low at_Stretch_has_high gt_Stretch_has_high tk_Stretch_has_high rc_Stretch_has_high l_Stretch_has_high hc_Stretch_has_high k_Stretch_has_high a_show_number l_show_number hc_show_number k_show_number a_show_line l_show_line hc_show_line k_show_line a_show_stretch l_show_stretch hc_show_stretch k_show_stretch a_digits_in l_digits_in hc_digits_in k_digits_in a_number_in l_number_in hc_number_in k_number_in a_slope_in l_slope_in hc_slope_in k_slope_in a_line_in l_line_in hc_line_in k_line_in a_stretch_in l_stretch_in hc_stretch_in k_stretch_in a_read_by l_read_by hc_read_by k_read_by a_read_number l_read_number hc_read_number k_read_number a_read_line l_read_line hc_read_line k_read_line a_read_stretch l_read_stretch hc_read_stretch k_read_stretch a_law_pot l_law_pot hc_law_pot k_law_pot a_law_take l_law_take hc_law_take k_law_take a_law_of l_law_of hc_law_of k_law_of a_law_digits l_law_digits hc_law_digits k_law_digits a_law_lowest l_law_lowest hc_law_lowest k_law_lowest a_law_pair l_law_pair hc_law_pair k_law_pair a_law_number_text l_law_number_text hc_law_number_text k_law_number_text a_law_line_text l_law_line_text hc_law_line_text k_law_line_text a_law_is_digits l_law_is_digits hc_law_is_digits k_law_is_digits a_law_number_of l_law_number_of hc_law_number_of k_law_number_of a_law_is_line l_law_is_line hc_law_is_line k_law_is_line a_law_is_stretch l_law_is_stretch hc_law_is_stretch k_law_is_stretch a_law_due l_law_due hc_law_due k_law_due a_law_read l_law_read hc_law_read k_law_read a_law_is_right l_law_is_right hc_law_is_right k_law_is_right a_law_bent l_law_bent hc_law_bent k_law_bent a_law_drawn l_law_drawn hc_law_drawn k_law_drawn a_law l_law hc_law k_law cs_BLANK cs_STROKE cs_MINUS cs_PLUS cs_OF_SPEED cs_DIGITS cs_MOST_DIGITS cs_THREE cs_OPENING dl_OPENING dk_OPENING de_OPENING dm_OPENING dv_OPENING_0 dv_OPENING_1 cs_CLOSING dl_CLOSING dk_CLOSING de_CLOSING dm_CLOSING dv_CLOSING_0 dv_CLOSING_1 z_isinstance z_int z_bool z_abs z_len z_max z_min z_range z_all z_str kit_NumNum kit_LinLin kit_StrStr kit_blbl kit_BT kit_strstr kit_nonstr kit_nonbl kit_blstr kit_intstr kit_intbl kit_tupstr kit_tupbl kit_lststr kit_lstbl kit_dctstr kit_dctbl kit_strbl
  have e := hfa.symm.trans (PySem.W.mg_of X G a_law)
  cases e
  refine ⟨A.d_law, fun s v => ?_, fun base _ _ => eA ▸ (ok_law T).mono (by decide)⟩
  obtain ⟨oc, od, kV, doc, pm, an, cdv, ct, osl, hfd, _, _⟩ := T.t.F_law.ex
  rw [hfd]
  exact .of_eq rfl
end Q
open PySem PySem.W PyProof.Rows
set_option maxRecDepth 100000 in
set_option maxHeartbeats 0 in
theorem PySem.Challenge.cw_whatspeed_k94_texts_that_are_none_holds : PySem.Challenge.rw_whatspeed_k94_texts_that_are_none.Holds := by
  w_on; o_law; k_head; (case hw => w_witness2)
  k_fill
  refine Q.walk (l := PySem.Challenge.rw_whatspeed_k94_texts_that_are_none) rfl rfl (fun w h Y => PySem.W.kIn_of Y) ?F
  case F =>
    intro w mg fa h KX G hmg
    refine' Q.law_mk KX G hmg ?a_SpeedError ?a_BadStretch ?a_BadText ?a_Number ?pg_Number ?hd_Number ?po_Number ?sa_Number ?mk_Number ?kc_Number ?sf_Number ?ca_Number ?cm_Number ?n_Number_own_top ?n_Number_own_bottom ?a_Line ?pg_Line ?hd_Line ?po_Line ?sa_Line ?mk_Line ?kc_Line ?sf_Line ?ca_Line ?cm_Line ?n_Line_own_base ?n_Line_own_slope ?a_Stretch ?pg_Stretch ?hd_Stretch ?po_Stretch ?sa_Stretch ?mk_Stretch ?kc_Stretch ?sf_Stretch ?ca_Stretch ?cm_Stretch ?n_Stretch_own_low ?n_Stretch_own_high ?n_Stretch_includes_low ?n_Stretch_includes_high ?n_Stretch_own_middle ?cn ?ct ?z_super ?tp_any ?lC_BadStretch ?rv_BadStretch ?sa_BadStretch ?ex_BadStretch ?ty_BadStretch ?kc_BadStretch ?in_BadStretch ?ti_BadStretch ?lf_BadStretch ?hc_BadStretch ?lk_BadStretch ?vs_BadStretch ?fi_BadStretch ?lc_BadStretch ?ms_BadStretch ?sv_BadStretch ?sp_BadStretch ?no_BadStretch ?ga_BadStretch ?gg_BadStretch ?hd_BadStretch ?ca_BadStretch ?cm_BadStretch ?su_BadStretch_SpeedError ?ic_SpeedError ?sb_SpeedError ?tt_SpeedError ?su_BadStretch_BadStretch ?ic_BadStretch ?sb_BadStretch ?tt_BadStretch ?lC_BadText ?rv_BadText ?sa_BadText ?ex_BadText ?ty_BadText ?kc_BadText ?in_BadText ?ti_BadText ?lf_BadText ?hc_BadText ?lk_BadText ?vs_BadText ?fi_BadText ?lc_BadText ?ms_BadText ?sv_BadText ?sp_BadText ?no_BadText ?ga_BadText ?gg_BadText ?hd_BadText ?ca_BadText ?cm_BadText ?su_BadText_SpeedError ?a_is_integer ?l_is_integer ?hc_is_integer ?k_is_integer ?a_shared_divisor ?l_shared_divisor ?hc_shared_divisor ?k_shared_divisor ?a_Number_init ?i_Number_init ?l_Number_init ?hc_Number_init ?k_Number_init ?lT_Number_init ?at_Number_top ?gt_Number_top ?tk_Number_top ?rc_Number_top ?l_Number_top ?hc_Number_top ?k_Number_top ?at_Number_bottom ?gt_Number_bottom ?tk_Number_bottom ?rc_Number_bottom ?l_Number_bottom ?hc_Number_bottom ?k_Number_bottom ?a_Number_eq ?i_Number_eq ?l_Number_eq ?hc_Number_eq ?k_Number_eq ?a_Number_is_less ?i_Number_is_less ?l_Number_is_less ?hc_Number_is_less ?k_Number_is_less ?a_Number_add ?i_Number_add ?l_Number_add ?hc_Number_add ?k_Number_add ?a_Number_sub ?i_Number_sub ?l_Number_sub ?hc_Number_sub ?k_Number_sub ?a_Number_divided_by ?i_Number_divided_by ?l_Number_divided_by ?hc_Number_divided_by ?k_Number_divided_by ?a_Number_neg ?i_Number_neg ?l_Number_neg ?hc_Number_neg ?k_Number_neg ?a_Number_abs ?i_Number_abs ?l_Number_abs ?hc_Number_abs ?k_Number_abs ?a_Number_bool ?i_Number_bool ?l_Number_bool ?hc_Number_bool ?k_Number_bool ?a_whole ?l_whole ?hc_whole ?k_whole ?a_Line_init ?i_Line_init ?l_Line_init ?hc_Line_init ?k_Line_init ?at_Line_base ?gt_Line_base ?tk_Line_base ?rc_Line_base ?l_Line_base ?hc_Line_base ?k_Line_base ?at_Line_slope ?gt_Line_slope ?tk_Line_slope ?rc_Line_slope ?l_Line_slope ?hc_Line_slope ?k_Line_slope ?a_Stretch_init ?i_Stretch_init ?l_Stretch_init ?hc_Stretch_init ?k_Stretch_init ?kw_Stretch_init_has_low ?kw_Stretch_init_has_high ?at_Stretch_low ?gt_Stretch_low ?tk_Stretch_low ?rc_Stretch_low ?l_Stretch_low ?hc_Stretch_low ?k_Stretch_low ?at_Stretch_high ?gt_Stretch_high ?tk_Stretch_high ?rc_Stretch_high ?l_Stretch_high ?hc_Stretch_high ?k_Stretch_high ?at_Stretch_has_low ?gt_Stretch_has_low ?tk_Stretch_has_low ?rc_Stretch_has_low ?l_Stretch_has_low ?hc_Stretch_has_low ?k_Stretch_has_low ?at_Stretch_has_high ?gt_Stretch_has_high ?tk_Stretch_has_high ?rc_Stretch_has_high ?l_Stretch_has_high ?hc_Stretch_has_high ?k_Stretch_has_high ?a_show_number ?l_show_number ?hc_show_number ?k_show_number ?a_show_line ?l_show_line ?hc_show_line ?k_show_line ?a_show_stretch ?l_show_stretch ?hc_show_stretch ?k_show_stretch ?a_digits_in ?l_digits_in ?hc_digits_in ?k_digits_in ?a_number_in ?l_number_in ?hc_number_in ?k_number_in ?a_slope_in ?l_slope_in ?hc_slope_in ?k_slope_in ?a_line_in ?l_line_in ?hc_line_in ?k_line_in ?a_stretch_in ?l_stretch_in ?hc_stretch_in ?k_stretch_in ?a_read_by ?l_read_by ?hc_read_by ?k_read_by ?a_read_number ?l_read_number ?hc_read_number ?k_read_number ?a_read_line ?l_read_line ?hc_read_line ?k_read_line ?a_read_stretch ?l_read_stretch ?hc_read_stretch ?k_read_stretch ?a_law_pot ?l_law_pot ?hc_law_pot ?k_law_pot ?a_law_take ?l_law_take ?hc_law_take ?k_law_take ?a_law_of ?l_law_of ?hc_law_of ?k_law_of ?a_law_digits ?l_law_digits ?hc_law_digits ?k_law_digits ?a_law_lowest ?l_law_lowest ?hc_law_lowest ?k_law_lowest ?a_law_pair ?l_law_pair ?hc_law_pair ?k_law_pair ?a_law_number_text ?l_law_number_text ?hc_law_number_text ?k_law_number_text ?a_law_line_text ?l_law_line_text ?hc_law_line_text ?k_law_line_text ?a_law_is_digits ?l_law_is_digits ?hc_law_is_digits ?k_law_is_digits ?a_law_number_of ?l_law_number_of ?hc_law_number_of ?k_law_number_of ?a_law_is_line ?l_law_is_line ?hc_law_is_line ?k_law_is_line ?a_law_is_stretch ?l_law_is_stretch ?hc_law_is_stretch ?k_law_is_stretch ?a_law_due ?l_law_due ?hc_law_due ?k_law_due ?a_law_read ?l_law_read ?hc_law_read ?k_law_read ?a_law_is_right ?l_law_is_right ?hc_law_is_right ?k_law_is_right ?a_law_bent ?l_law_bent ?hc_law_bent ?k_law_bent ?a_law_drawn ?l_law_drawn ?hc_law_drawn ?k_law_drawn ?a_law ?l_law ?hc_law ?k_law ?cs_BLANK ?cs_STROKE ?cs_MINUS ?cs_PLUS ?cs_OF_SPEED ?cs_DIGITS ?cs_MOST_DIGITS ?cs_THREE ?cs_OPENING ?dl_OPENING ?dk_OPENING ?de_OPENING ?dm_OPENING ?dv_OPENING_0 ?dv_OPENING_1 ?cs_CLOSING ?dl_CLOSING ?dk_CLOSING ?de_CLOSING ?dm_CLOSING ?dv_CLOSING_0 ?dv_CLOSING_1 ?z_isinstance ?z_int ?z_bool ?z_abs ?z_len ?z_max ?z_min ?z_range ?z_all ?z_str ?kit_NumNum ?kit_LinLin ?kit_StrStr ?kit_blbl ?kit_BT ?kit_strstr ?kit_nonstr ?kit_nonbl ?kit_blstr ?kit_intstr ?kit_intbl ?kit_tupstr ?kit_tupbl ?kit_lststr ?kit_lstbl ?kit_dctstr ?kit_dctbl ?kit_strbl
    (case a_SpeedError => k_is)
    (case a_BadStretch => k_is)
    (case a_BadText => k_is)
    (case a_Number => k_is)
    (case pg_Number => k_is)
    (case hd_Number => k_is)
    (case po_Number => k_is)
    (case sa_Number => k_is)
    (case mk_Number => k_is)
    (case kc_Number => k_is)
    (case sf_Number => k_is)
    (case ca_Number => k_is)
    (case cm_Number => k_is)
    (case n_Number_own_top => k_is)
    (case n_Number_own_bottom => k_is)
    (case a_Line => k_is)
    (case pg_Line => k_is)
    (case hd_Line => k_is)
    (case po_Line => k_is)
    (case sa_Line => k_is)
    (case mk_Line => k_is)
    (case kc_Line => k_is)
    (case sf_Line => k_is)
    (case ca_Line => k_is)
    (case cm_Line => k_is)
    (case n_Line_own_base => k_is)
    (case n_Line_own_slope => k_is)
    (case a_Stretch => k_is)
    (case pg_Stretch => k_is)
    (case hd_Stretch => k_is)
    (case po_Stretch => k_is)
    (case sa_Stretch => k_is)
    (case mk_Stretch => k_is)
    (case kc_Stretch => k_is)
    (case sf_Stretch => k_is)
    (case ca_Stretch => k_is)
    (case cm_Stretch => k_is)
    (case n_Stretch_own_low => k_is)
    (case n_Stretch_own_high => k_is)
    (case n_Stretch_includes_low => k_is)
    (case n_Stretch_includes_high => k_is)
    (case n_Stretch_own_middle => k_is)
    (case cn => k_is)
    (case ct => k_is)
    (case z_super => k_is)
    (case tp_any => k_is)
    (case lC_BadStretch => k_is)
    (case rv_BadStretch => rfl)
    (case sa_BadStretch => k_is)
    (case ex_BadStretch => k_is)
    (case ty_BadStretch => k_is)
    (case kc_BadStretch => k_is)
    (case in_BadStretch => k_is)
    (case ti_BadStretch => k_is)
    (case lf_BadStretch => k_is)
    (case hc_BadStretch => k_is)
    (case lk_BadStretch => k_is)
    (case vs_BadStretch => rfl)
    (case fi_BadStretch => kernel_rfl)
    (case lc_BadStretch => k_is)
    (case ms_BadStretch => k_is)
    (case sv_BadStretch => k_is)
    (case sp_BadStretch => kernel_rfl)
    (case no_BadStretch => k_is)
    (case ga_BadStretch => k_is)
    (case gg_BadStretch => k_is)
    (case hd_BadStretch => k_is)
    (case ca_BadStretch => k_is)
    (case cm_BadStretch => k_is)
    (case su_BadStretch_SpeedError => k_is)
    (case ic_SpeedError => k_is)
    (case sb_SpeedError => k_is)
    (case tt_SpeedError => k_is)
    (case su_BadStretch_BadStretch => k_is)
    (case ic_BadStretch => k_is)
    (case sb_BadStretch => k_is)
    (case tt_BadStretch => k_is)
    (case lC_BadText => k_is)
    (case rv_BadText => rfl)
    (case sa_BadText => k_is)
    (case ex_BadText => k_is)
    (case ty_BadText => k_is)
    (case kc_BadText => k_is)
    (case in_BadText => k_is)
    (case ti_BadText => k_is)
    (case lf_BadText => k_is)
    (case hc_BadText => k_is)
    (case lk_BadText => k_is)
    (case vs_BadText => rfl)
    (case fi_BadText => kernel_rfl)
    (case lc_BadText => k_is)
    (case ms_BadText => k_is)
    (case sv_BadText => k_is)
    (case sp_BadText => kernel_rfl)
    (case no_BadText => k_is)
    (case ga_BadText => k_is)
    (case gg_BadText => k_is)
    (case hd_BadText => k_is)
    (case ca_BadText => k_is)
    (case cm_BadText => k_is)
    (case su_BadText_SpeedError => k_is)
    (case a_is_integer => k_is)
    (case l_is_integer => k_is)
    (case hc_is_integer => k_is)
    (case k_is_integer => k_is)
    (case a_shared_divisor => k_is)
    (case l_shared_divisor => k_is)
    (case hc_shared_divisor => k_is)
    (case k_shared_divisor => k_is)
    (case a_Number_init => k_is)
    (case i_Number_init => k_is)
    (case l_Number_init => k_is)
    (case hc_Number_init => k_is)
    (case k_Number_init => k_is)
    (case lT_Number_init => k_is)
    (case at_Number_top => k_is)
    (case gt_Number_top => k_is)
    (case tk_Number_top => k_is)
    (case rc_Number_top => k_is)
    (case l_Number_top => k_is)
    (case hc_Number_top => k_is)
    (case k_Number_top => k_is)
    (case at_Number_bottom => k_is)
    (case gt_Number_bottom => k_is)
    (case tk_Number_bottom => k_is)
    (case rc_Number_bottom => k_is)
    (case l_Number_bottom => k_is)
    (case hc_Number_bottom => k_is)
    (case k_Number_bottom => k_is)
    (case a_Number_eq => k_is)
    (case i_Number_eq => k_is)
    (case l_Number_eq => k_is)
    (case hc_Number_eq => k_is)
    (case k_Number_eq => k_is)
    (case a_Number_is_less => k_is)
    (case i_Number_is_less => k_is)
    (case l_Number_is_less => k_is)
    (case hc_Number_is_less => k_is)
    (case k_Number_is_less => k_is)
    (case a_Number_add => k_is)
    (case i_Number_add => k_is)
    (case l_Number_add => k_is)
    (case hc_Number_add => k_is)
    (case k_Number_add => k_is)
    (case a_Number_sub => k_is)
    (case i_Number_sub => k_is)
    (case l_Number_sub => k_is)
    (case hc_Number_sub => k_is)
    (case k_Number_sub => k_is)
    (case a_Number_divided_by => k_is)
    (case i_Number_divided_by => k_is)
    (case l_Number_divided_by => k_is)
    (case hc_Number_divided_by => k_is)
    (case k_Number_divided_by => k_is)
    (case a_Number_neg => k_is)
    (case i_Number_neg => k_is)
    (case l_Number_neg => k_is)
    (case hc_Number_neg => k_is)
    (case k_Number_neg => k_is)
    (case a_Number_abs => k_is)
    (case i_Number_abs => k_is)
    (case l_Number_abs => k_is)
    (case hc_Number_abs => k_is)
    (case k_Number_abs => k_is)
    (case a_Number_bool => k_is)
    (case i_Number_bool => k_is)
    (case l_Number_bool => k_is)
    (case hc_Number_bool => k_is)
    (case k_Number_bool => k_is)
    (case a_whole => k_is)
    (case l_whole => k_is)
    (case hc_whole => k_is)
    (case k_whole => k_is)
    (case a_Line_init => k_is)
    (case i_Line_init => k_is)
    (case l_Line_init => k_is)
    (case hc_Line_init => k_is)
    (case k_Line_init => k_is)
    (case at_Line_base => k_is)
    (case gt_Line_base => k_is)
    (case tk_Line_base => k_is)
    (case rc_Line_base => k_is)
    (case l_Line_base => k_is)
    (case hc_Line_base => k_is)
    (case k_Line_base => k_is)
    (case at_Line_slope => k_is)
    (case gt_Line_slope => k_is)
    (case tk_Line_slope => k_is)
    (case rc_Line_slope => k_is)
    (case l_Line_slope => k_is)
    (case hc_Line_slope => k_is)
    (case k_Line_slope => k_is)
    (case a_Stretch_init => k_is)
    (case i_Stretch_init => k_is)
    (case l_Stretch_init => k_is)
    (case hc_Stretch_init => k_is)
    (case k_Stretch_init => k_is)
    (case kw_Stretch_init_has_low => k_is)
    (case kw_Stretch_init_has_high => k_is)
    (case at_Stretch_low => k_is)
    (case gt_Stretch_low => k_is)
    (case tk_Stretch_low => k_is)
    (case rc_Stretch_low => k_is)
    (case l_Stretch_low => k_is)
    (case hc_Stretch_low => k_is)
    (case k_Stretch_low => k_is)
    (case at_Stretch_high => k_is)
    (case gt_Stretch_high => k_is)
    (case tk_Stretch_high => k_is)
    (case rc_Stretch_high => k_is)
    (case l_Stretch_high => k_is)
    (case hc_Stretch_high => k_is)
    (case k_Stretch_high => k_is)
    (case at_Stretch_has_low => k_is)
    (case gt_Stretch_has_low => k_is)
    (case tk_Stretch_has_low => k_is)
    (case rc_Stretch_has_low => k_is)
    (case l_Stretch_has_low => k_is)
    (case hc_Stretch_has_low => k_is)
    (case k_Stretch_has_low => k_is)
    (case at_Stretch_has_high => k_is)
    (case gt_Stretch_has_high => k_is)
    (case tk_Stretch_has_high => k_is)
    (case rc_Stretch_has_high => k_is)
    (case l_Stretch_has_high => k_is)
    (case hc_Stretch_has_high => k_is)
    (case k_Stretch_has_high => k_is)
    (case a_show_number => k_is)
    (case l_show_number => k_is)
    (case hc_show_number => k_is)
    (case k_show_number => k_is)
    (case a_show_line => k_is)
    (case l_show_line => k_is)
    (case hc_show_line => k_is)
    (case k_show_line => k_is)
    (case a_show_stretch => k_is)
    (case l_show_stretch => k_is)
    (case hc_show_stretch => k_is)
    (case k_show_stretch => k_is)
    (case a_digits_in => k_is)
    (case l_digits_in => k_is)
    (case hc_digits_in => k_is)
    (case k_digits_in => k_is)
    (case a_number_in => k_is)
    (case l_number_in => k_is)
    (case hc_number_in => k_is)
    (case k_number_in => k_is)
    (case a_slope_in => k_is)
    (case l_slope_in => k_is)
    (case hc_slope_in => k_is)
    (case k_slope_in => k_is)
    (case a_line_in => k_is)
    (case l_line_in => k_is)
    (case hc_line_in => k_is)
    (case k_line_in => k_is)
    (case a_stretch_in => k_is)
    (case l_stretch_in => k_is)
    (case hc_stretch_in => k_is)
    (case k_stretch_in => k_is)
    (case a_read_by => k_is)
    (case l_read_by => k_is)
    (case hc_read_by => k_is)
    (case k_read_by => k_is)
    (case a_read_number => k_is)
    (case l_read_number => k_is)
    (case hc_read_number => k_is)
    (case k_read_number => k_is)
    (case a_read_line => k_is)
    (case l_read_line => k_is)
    (case hc_read_line => k_is)
    (case k_read_line => k_is)
    (case a_read_stretch => k_is)
    (case l_read_stretch => k_is)
    (case hc_read_stretch => k_is)
    (case k_read_stretch => k_is)
    (case a_law_pot => k_is)
    (case l_law_pot => k_is)
    (case hc_law_pot => k_is)
    (case k_law_pot => k_is)
    (case a_law_take => k_is)
    (case l_law_take => k_is)
    (case hc_law_take => k_is)
    (case k_law_take => k_is)
    (case a_law_of => k_is)
    (case l_law_of => k_is)
    (case hc_law_of => k_is)
    (case k_law_of => k_is)
    (case a_law_digits => k_is)
    (case l_law_digits => k_is)
    (case hc_law_digits => k_is)
    (case k_law_digits => k_is)
    (case a_law_lowest => k_is)
    (case l_law_lowest => k_is)
    (case hc_law_lowest => k_is)
    (case k_law_lowest => k_is)
    (case a_law_pair => k_is)
    (case l_law_pair => k_is)
    (case hc_law_pair => k_is)
    (case k_law_pair => k_is)
    (case a_law_number_text => k_is)
    (case l_law_number_text => k_is)
    (case hc_law_number_text => k_is)
    (case k_law_number_text => k_is)
    (case a_law_line_text => k_is)
    (case l_law_line_text => k_is)
    (case hc_law_line_text => k_is)
    (case k_law_line_text => k_is)
    (case a_law_is_digits => k_is)
    (case l_law_is_digits => k_is)
    (case hc_law_is_digits => k_is)
    (case k_law_is_digits => k_is)
    (case a_law_number_of => k_is)
    (case l_law_number_of => k_is)
    (case hc_law_number_of => k_is)
    (case k_law_number_of => k_is)
    (case a_law_is_line => k_is)
    (case l_law_is_line => k_is)
    (case hc_law_is_line => k_is)
    (case k_law_is_line => k_is)
    (case a_law_is_stretch => k_is)
    (case l_law_is_stretch => k_is)
    (case hc_law_is_stretch => k_is)
    (case k_law_is_stretch => k_is)
    (case a_law_due => k_is)
    (case l_law_due => k_is)
    (case hc_law_due => k_is)
    (case k_law_due => k_is)
    (case a_law_read => k_is)
    (case l_law_read => k_is)
    (case hc_law_read => k_is)
    (case k_law_read => k_is)
    (case a_law_is_right => k_is)
    (case l_law_is_right => k_is)
    (case hc_law_is_right => k_is)
    (case k_law_is_right => k_is)
    (case a_law_bent => k_is)
    (case l_law_bent => k_is)
    (case hc_law_bent => k_is)
    (case k_law_bent => k_is)
    (case a_law_drawn => k_is)
    (case l_law_drawn => k_is)
    (case hc_law_drawn => k_is)
    (case k_law_drawn => k_is)
    (case a_law => k_is)
    (case l_law => k_is)
    (case hc_law => k_is)
    (case k_law => k_is)
    (case cs_BLANK => k_is)
    (case cs_STROKE => k_is)
    (case cs_MINUS => k_is)
    (case cs_PLUS => k_is)
    (case cs_OF_SPEED => k_is)
    (case cs_DIGITS => k_is)
    (case cs_MOST_DIGITS => k_is)
    (case cs_THREE => k_is)
    (case cs_OPENING => k_is)
    (case dl_OPENING => k_is)
    (case dk_OPENING => exact ⟨⟨_, _, rfl, rfl⟩, ⟨_, _, rfl, rfl⟩, True.intro⟩)
    (case de_OPENING => exact ⟨_, _, _, _, rfl⟩)
    (case dm_OPENING => decide)
    (case dv_OPENING_0 => k_is)
    (case dv_OPENING_1 => k_is)
    (case cs_CLOSING => k_is)
    (case dl_CLOSING => k_is)
    (case dk_CLOSING => exact ⟨⟨_, _, rfl, rfl⟩, ⟨_, _, rfl, rfl⟩, True.intro⟩)
    (case de_CLOSING => exact ⟨_, _, _, _, rfl⟩)
    (case dm_CLOSING => decide)
    (case dv_CLOSING_0 => k_is)
    (case dv_CLOSING_1 => k_is)
    (case z_isinstance => k_is)
    (case z_int => k_is)
    (case z_bool => k_is)
    (case z_abs => k_is)
    (case z_len => k_is)
    (case z_max => k_is)
    (case z_min => k_is)
    (case z_range => k_is)
    (case z_all => k_is)
    (case z_str => k_is)
    (case kit_NumNum => kit_is)
    (case kit_LinLin => kit_is)
    (case kit_StrStr => kit_is)
    (case kit_blbl => kit_is)
    (case kit_BT => kit_is)
    (case kit_strstr => kit_is)
    (case kit_nonstr => kit_is)
    (case kit_nonbl => kit_is)
    (case kit_blstr => kit_is)
    (case kit_intstr => kit_is)
    (case kit_intbl => kit_is)
    (case kit_tupstr => kit_is)
    (case kit_tupbl => kit_is)
    (case kit_lststr => kit_is)
    (case kit_lstbl => kit_is)
    (case kit_dctstr => kit_is)
    (case kit_dctbl => kit_is)
    (case kit_strbl => kit_is)
