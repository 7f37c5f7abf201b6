import PyProof.Rows.All
import Wide.All
import OpenK.AllK
import Wide.FinOn
import KE.KOpsOwn
import KE.RegKIsAll
import HandS.ForMost
import HandS.ForExc
import HandS.Wide
import HandS.IsInst
import HandS.Property
import HandS.Star
import HandS.SlotsOwn
import HandS.MakeKw
import HandS.Evl
import HandS.Style
import HandS.MakeKwOnly
import PySem.Challenge.RW_whatspeed_k05_lines
set_option Elab.async false
set_option linter.all false
set_option maxRecDepth 100000
set_option maxHeartbeats 2000000
namespace WL
open PySem PySem.Spec PyProof.Rows L2

/-! ### operators that the bundles lack -/
def CPowW (i j : Int) : Prop := 0 ≤ j ∧ (Builtin.Int.intBits i : Int) * j ≤ 2 ^ 27
def CDivG (i j : Int) : Prop := j ≠ 0 ∧ j.natAbs.log2 < 9000
section
variable {X : Cx}
theorem op_powW : OpR X (binaryOp .Pow) (rI CPowW fun i j => .int (i ^ j.toNat)) := opI fun _ _ _ _ _ _ _ hc q => pow_int hc.1 hc.2 q
theorem op_fdivG : OpR X (binaryOp .FloorDiv) (rI CDivG fun i j => .int (i.fdiv j)) := opI fun _ _ _ _ _ _ _ hc q =>
  floordiv_int hc.1 q (.inl (PyProof.noPylong_of_log2 hc.2))
end

/-! ### an own class's operators: x op y, both instances of the class at C -/
def rOwn2 (C : Addr) (sp : Sp) (E : XK) : R2 := fun x y H Q => ∃ a dx fs b dy gs, x = .ref a ∧ y = .ref b ∧ H a = some (.ins C dx fs) ∧ H b = some (.ins C dy gs) ∧ sp [x, y] H Q E
/-- x == y, x an instance of the class at C, y of a type that is not below it -/
def rOwnEq (K : PySem.W.Frag) (C : Addr) (sp : Sp) (E : XK) : R2 := fun x y H Q => ∃ a dx fs t, x = .ref a ∧ H a = some (.ins C dx fs) ∧ TyX K H y t ∧ PySem.W.notFirst K C t = true ∧ sp [x, y] H Q E
section
variable {X : Cx} {CX : CXT} {n : Nat} {C g : Addr} {fd : FuncData} {ps : List Str} {sp : Sp} {E : XK}
theorem op_own2 {op : Operator} (F : FnOk X.prog X.w X.K X.mg X.base CX n g fd ps sp) (hb : Binds X.K fd ps []) (hs : PySem.W.findIn X.K (.ref C) (PySem.dunder op.info.2) = some (some (.ref g)))
    (hf : PySem.W.isFn X.K (.ref g) = true) (hc : PySem.W.selfFirst X.K C = true) (hr : Room n X.A) (hx : Passes CX X E) : OpR X (binaryOp op) (rOwn2 C sp E) := by
  intro pins s σ H x y v u Q I rx ry h
  obtain ⟨a, dx, fs, b, dy, gs, rfl, rfl, ha, hb', q⟩ := h
  cases (show v = Value.ref a from rx)
  cases (show u = Value.ref b from ry)
  obtain ⟨mA, J, _⟩ := ins_get I.hok ha
  obtain ⟨mB, J', _⟩ := ins_get I.hok hb'
  obtain ⟨od, J, _⟩ := J.look
  obtain ⟨od', J', _⟩ := J'.look
  obtain ⟨m, hF⟩ := I.fr
  refine PySem.W.binop_K hF I.ok.mod.kin J J'.type hc hs hf ?_
  refine wpAny_mono (run_fn (us := [.ref a, .ref b]) (vs := [.ref a, .ref b]) (dvs := []) (ds := []) F hr hb .nil hx I (.cons rfl (.cons rfl .nil)) q) (fun w s' z => ?_) fun _ _ x => x
  obtain ⟨z', H', I', rz, qz⟩ := z
  exact SlX.cmpback rz ⟨z', H', I', rz, qz⟩
theorem op_ownEq (F : FnOk X.prog X.w X.K X.mg X.base CX n g fd ps sp) (hb : Binds X.K fd ps []) (hs : PySem.W.findIn X.K (.ref C) "__eq__" = some (some (.ref g)))
    (hf : PySem.W.isFn X.K (.ref g) = true) (hr : Room n X.A) (hx : Passes CX X E) : OpR X (compareOp .Eq) (rOwnEq X.K C sp E) := by
  intro pins s σ H x y v u Q I rx ry h
  obtain ⟨a, dx, fs, t, rfl, ha, ty, hn, q⟩ := h
  cases (show v = Value.ref a from rx)
  obtain ⟨mA, J, _⟩ := ins_get I.hok ha
  obtain ⟨od, J, _⟩ := J.look
  obtain ⟨m, hF⟩ := I.fr
  obtain ⟨P, Z, p, _⟩ := kit_of I ry ty
  show wpAny (model X.prog X.w) X.A (richCompare .Eq (.ref a) u) (EP X pins σ Q) X.xe s
  refine PySem.W.cmp_K (op := .Eq) hr.units0 hF I.ok.mod.kin J (Z.ty _ _ I.kIn p) hn hs hf ?_
  refine wpAny_mono (run_fn (us := [.ref a, u]) (vs := [.ref a, y]) (dvs := []) (ds := []) F hr hb .nil hx I (.cons rfl (.cons ry .nil)) q) (fun w s' z => ?_) fun _ _ x => x
  obtain ⟨z', H', I', rz, qz⟩ := z
  exact SlX.cmpback rz ⟨z', H', I', rz, qz⟩
/-- -x -/
def rOwn1 (C : Addr) (sp : Sp) (E : XK) : V → Hp → VK → Prop := fun x H Q => ∃ a dx fs, x = .ref a ∧ H a = some (.ins C dx fs) ∧ sp [x] H Q E
theorem un_ownNeg (F : FnOk X.prog X.w X.K X.mg X.base CX n g fd ps sp) (hb : Binds X.K fd ps []) (hs : PySem.W.findIn X.K (.ref C) "__neg__" = some (some (.ref g)))
    (hf : PySem.W.isFn X.K (.ref g) = true) (hr : Room n X.A) (hx : Passes CX X E) : UnR X (unaryOp .USub) (rOwn1 C sp E) := by
  intro pins s σ H x v Q I rx h
  obtain ⟨a, dx, fs, rfl, ha, q⟩ := h
  cases (show v = Value.ref a from rx)
  obtain ⟨mA, J, _⟩ := ins_get I.hok ha
  obtain ⟨od, J, _⟩ := J.look
  obtain ⟨m, hF⟩ := I.fr
  exact PySem.W.ksp_neg hF I.ok.mod.kin J hs hf (run_fn (us := [.ref a]) (vs := [.ref a]) (dvs := []) (ds := []) F hr hb .nil hx I (.cons rfl .nil) q)
end

/-! ### x != y by an own __eq__ and object's __ne__ -/
section
variable {prog : Program} {w : World} {A : Around} {E : Value → Shared → Prop} {s : Shared} {K : PySem.W.Frag} {x C f L : Addr} {h₀ : Heap} {m : Str → Option Value} {ox : Obj} {od : Option Obj} {b tb : Value}
theorem ne_entry (X : K.In s.heap) (I : PySem.W.InstAt s.heap x ox C od) (hu : A.units < cLine) (hs : PySem.W.findIn K (.ref C) "__eq__" = some (some (.ref f))) (hf : PySem.W.isFn K (.ref f) = true) {Q : Fin → Shared → Prop}
    (h : wpAny (model prog w) A (call (.ref f) [.ref x, b]) (fun v s' => ∃ r, v = .bool r ∧ Q (.done (.ret (.bool (!r)))) s') E s) :
    wpAny (model prog w) A (Builtin.«object.__ne__» ⟨[.ref x, b], []⟩) Q E s := by
  unfold Builtin.«object.__ne__»
  repeat (first
    | with_reducible refine wpAny_cRoomFor hu ?_
    | (refine wpAny_bind (m := callSpecialIfBound? (.ref x) (Str.ofString "__eq__") [b])
        (PySem.W.ifBound_K X I hs hf (wpAny_mono h (fun r s' hr => by
          obtain ⟨b, rfl, hq⟩ := hr
          repeat (first | exact hq | exact wpAny_pure hq | exact wpAny_truthy_bool hq | (refine wpAny_bind (m := truthy (.bool _)) (wpAny_truthy_bool ?_)) | wp_step)) fun _ _ e => e)))
    | wp_step)
theorem try_ne (X : K.In s.heap) (I : PySem.W.InstAt s.heap x ox C od) (hu : A.units + 1 < cLine) (hne : PySem.W.findIn K (.ref C) "__ne__" = some (some (.builtin "object.__ne__"))) (hm : PySem.W.mroIn K C (.type "object") = some true)
    (hs : PySem.W.findIn K (.ref C) "__eq__" = some (some (.ref f))) (hf : PySem.W.isFn K (.ref f) = true) {Q : Option Value → Shared → Prop}
    (h : wpAny (model prog w) A.in1 (call (.ref f) [.ref x, b]) (fun v s' => ∃ r, v = .bool r ∧ Q (some (.bool (!r))) s') E s) :
    wpAny (model prog w) A (tryCompare (.ref x) "__ne__" b) Q E s := by
  unfold tryCompare
  simp only [callSpecialIfBound?, bindSpecialIfBound?]
  refine wpAny_bind (wpAny_holding (wpAny_bind (wpAny_bind (wpAny_bind (I.type.here ((PySem.W.looks_findIn X hne).here ?_))))))
  have call_it : ∀ {Q' : Value → Shared → Prop}, (∀ r s', Q (some (.bool (!r))) s' → Q' (.bool (!r)) s') → wpAny (model prog w) A (call (.builtin "object.__ne__") [.ref x, b]) Q' E s := fun hq =>
    wpAny_call (codeAny_call_builtin F.cmp_object.ne.plain F.cmpEntry_ne (PySem.W.check_slot F.cmpKind_ne F.cmpSplit_ne (I.type.andThen (PySem.W.looks_mroIn X hm)) (F.cmpArgs_ne _ _)
      (ne_entry (A := A.in1) X I hu hs hf (wpAny_mono h (fun v s' hv => by
        obtain ⟨r, rfl, hq'⟩ := hv
        first | exact ⟨r, rfl, hq _ _ hq'⟩ | exact ⟨r, rfl, wpAny_pure (hq _ _ hq')⟩) fun _ _ e => e))))
  simp only [F.cmp_object.ne.bind]
  refine wpAny_bind (wpAny_askSetting (wpAny_ite ?_))
  have fin : wpAny (model prog w) A (call (.builtin "object.__ne__") ([.ref x] ++ [b]) >>= fun v => pure (some v)) (fun r s' => wpAny (model prog w) A (match r with | some .notImplemented => pure none | none => pure none | some v => pure (some v)) Q E s') E s :=
    wpAny_bind (call_it fun r s' q => wpAny_pure (wpAny_pure q))
  split
  · exact wpAny_bind (wpAny_pure (wpAny_pure (by first | exact fin | exact wpAny_mono fin (fun _ _ z => z) fun _ _ z => z)))
  · exact wpAny_tryCatch (wpAny_bind (wpAny_pure (wpAny_pure (by first | exact fin | exact wpAny_mono fin (fun _ _ z => z) fun _ _ z => z))))
theorem ne_K {Q : Value → Shared → Prop} (hu : A.units + 1 < cLine) (X : K.In s.heap) (I : PySem.W.InstAt s.heap x ox C od) (hb : PySem.W.Looks (model prog w) s.heap (typeOf b) tb) (hn : PySem.W.notFirst K C tb = true)
    (hne : PySem.W.findIn K (.ref C) "__ne__" = some (some (.builtin "object.__ne__"))) (hm : PySem.W.mroIn K C (.type "object") = some true) (hs : PySem.W.findIn K (.ref C) "__eq__" = some (some (.ref f))) (hf : PySem.W.isFn K (.ref f) = true)
    (h : wpAny (model prog w) A.in1 (call (.ref f) [.ref x, b]) (fun v s' => ∃ r, v = .bool r ∧ Q (.bool (!r)) s') E s) : wpAny (model prog w) A (richCompare .NotEq (.ref x) b) Q E s := by
  have one : wpAny (model prog w) A (tryCompare (.ref x) "__ne__" b) (fun r s' => ∃ v, r = some v ∧ Q v s') E s := try_ne X I hu hne hm hs hf (wpAny_mono h (fun v s' hv => by
    obtain ⟨r, rfl, q⟩ := hv
    exact ⟨r, rfl, _, rfl, q⟩) fun _ _ e => e)
  unfold richCompare
  simp only [oneThing_ref]
  refine wpAny_holding (wpAny_bind (wpAny_cRoomFor (by omega) ?_))
  refine wpAny_bind (I.type.here (wpAny_bind (hb.here ?_)))
  split
  · rename_i q
    have e : PySem.W.subIn K tb (.ref C) = some false := by
      rcases Bool.or_eq_true_iff.mp hn with e | e
      · rw [beq_iff_eq.mp e] at q; simp at q
      · exact beq_iff_eq.mp e
    refine wpAny_bind ((PySem.W.looks_subIn X e).here ?_)
    simp only [Bool.false_eq_true, if_false]
    refine wpAny_bind (wpAny_mono one (fun r s' z => ?_) fun _ _ e => e)
    obtain ⟨v, rfl, hq⟩ := z
    exact wpAny_pure hq
  · refine wpAny_bind (wpAny_pure ?_)
    simp only [Bool.false_eq_true, if_false]
    refine wpAny_bind (wpAny_mono one (fun r s' z => ?_) fun _ _ e => e)
    obtain ⟨v, rfl, hq⟩ := z
    exact wpAny_pure hq
end
/-- x != y -/
def rOwnNe (K : PySem.W.Frag) (C : Addr) (sp : Sp) (E : XK) : R2 := fun x y H Q => ∃ a dx fs t, x = .ref a ∧ H a = some (.ins C dx fs) ∧ TyX K H y t ∧ PySem.W.notFirst K C t = true ∧ sp [x, y] H (fun z H' => ∃ r, z = .bl r ∧ Q (.bl (!r)) H') E
theorem op_ownNe {X : Cx} (K : PySem.W.Frag) {CX : CXT} {n : Nat} {C g : Addr} {fd : FuncData} {ps : List Str} {sp : Sp} {E : XK} (F : FnOk X.prog X.w X.K X.mg X.base CX n g fd ps sp) (hb : Binds X.K fd ps []) (hne : PySem.W.findIn X.K (.ref C) "__ne__" = some (some (.builtin "object.__ne__"))) (hm : PySem.W.mroIn X.K C (.type "object") = some true)
    (hs : PySem.W.findIn X.K (.ref C) "__eq__" = some (some (.ref g))) (hf : PySem.W.isFn X.K (.ref g) = true) (hr : Room (n + 1) X.A) (hx : Passes CX X E) (hK : X.K = K := by rfl) : OpR X (compareOp .NotEq) (rOwnNe K C sp E) := by
  subst hK
  intro pins s σ H x y v u Q I rx ry h
  obtain ⟨a, dx, fs, t, rfl, ha, ty, hn, q⟩ := h
  cases (show v = Value.ref a from rx)
  obtain ⟨mA, J, _⟩ := ins_get I.hok ha
  obtain ⟨od, J, _⟩ := J.look
  obtain ⟨P, Z, p, _⟩ := kit_of I ry ty
  show wpAny (model X.prog X.w) X.A (richCompare .NotEq (.ref a) u) (EP X pins σ Q) X.xe s
  refine ne_K (by have := hr.un; omega) I.kIn J (Z.ty _ _ I.kIn p) hn hne hm hs hf ?_
  have hl := F.len _ _ _ _ q
  refine wpAny_call (codeAny_mono (F.run X.A.in1 X.stack s H ⟨[.ref a, u], []⟩ [.ref a, u] [.ref a, y] _ E hr.in1 I.env0.in1 (by
    have := hb s [.ref a, u] I.kIn (by simpa using hl)
    simpa using this) (.cons rfl (.cons ry .nil)) q) fun r s' hq => ?_)
  cases r with
  | error e => exact hx pins σ H s e s' I hq
  | ok fl =>
    cases fl with
    | ret u =>
      obtain ⟨z, H', I', rz, r, ez, q'⟩ := I.after hq
      subst ez
      cases (show u = Value.bool r from rz)
      exact ⟨r, rfl, .bl (!r), H', I', rfl, q'⟩
    | next => exact False.elim hq
    | brk => exact False.elim hq
    | cont => exact False.elim hq
/-! ### calls by keywords: f(e, .., k = v), o.m(e, .., k = v) -/
def tMethK (C : Addr) (m : Str) (n mm : Nat) (sp : Sp) (gV : List V → List V → List V) (E : XK) (ta : TE) (t tk : TA) : TE := fun σ H Q => ta σ H fun x H1 => ∃ a dx fs, x = .ref a ∧ H1 a = some (.ins C dx fs) ∧ fs.lookup m = none ∧
  t σ H1 fun vs H2 => tk σ H2 fun zs H3 => vs.length = n ∧ zs.length = mm ∧ sp (gV (x :: vs) zs) H3 Q E
def tCallKN (n mm : Nat) (sp : Sp) (gV : List V → List V → List V) (E : XK) (t tk : TA) : TE := fun σ H Q => t σ H fun vs H2 => tk σ H2 fun zs H3 => vs.length = n ∧ zs.length = mm ∧ sp (gV vs zs) H3 Q E
theorem kbn_of {K : PySem.W.Frag} {x qual : Str} {st : Stmt} {f : Addr} {fd : FuncData} {ps : List Str} (F : Fun K x qual st f fd) (n : Nat) (ks : List Str) (g : {α : Type} → List α → List α → List α)
    (hrel : ∀ {vs zs : List V} {us ws : List Value}, Vals vs us → Vals zs ws → Vals (g vs zs) (g us ws))
    (h : ∀ (kV doc pm : Value) (an : Option Addr) (cdv ct : Value) (us ws : List Value), us.length = n → ws.length = ks.length →
      bindArgs (PySem.W.fnOf x qual (defArgs st) (defBody st) (defScope st) .none kV doc pm an cdv ct) ⟨us, ks.zip ws⟩ = pure (ps.zip (g us ws))) : KBn K fd ps n ks (fun us ws => g us ws) (fun vs zs => g vs zs) := by
  obtain ⟨oc, od, kV, doc, pm, an, cdv, ct, osl, rfl, lk, hcd⟩ := F.ex
  exact ⟨fun s us ws X l1 l2 => .of_eq (h kV doc pm an cdv ct us ws l1 l2), fun r1 r2 => hrel r1 r2⟩
section
variable {X : Cx} {CX : CXT} {k n : Nat} {f C : Addr} {fd : FuncData} {ps ks : List Str} {sp : Sp} {E : XK} {x m : Str} {p pos apos : Pos} {o e : Expr} {es : List Expr} {kws : List Keyword} {ta : TE} {t tk : TA} {g : List Value → List Value → List Value} {gV : List V → List V → List V}
theorem run_fnN {pins : List (Addr × Obj)} {σ : L2.St} {H : Hp} {s : Shared} {Q : VK} {us ws : List Value} {vs zs : List V} (F : FnOk X.prog X.w X.K X.mg X.base CX k f fd ps sp) (hr : Room k X.A) (hb : KBn X.K fd ps n ks g gV) (hx : Passes CX X E)
    (I : Inv X pins σ H s) (r : Vals vs us) (rz : Vals zs ws) (l1 : vs.length = n) (l2 : zs.length = ks.length) (h : sp (gV vs zs) H Q E) : wpAny (model X.prog X.w) X.A (call (.ref f) us (ks.zip ws)) (EP X pins σ Q) X.xe s := by
  have r2 := hb.rel r rz
  refine wpAny_call (codeAny_mono (F.run X.A X.stack s H ⟨us, ks.zip ws⟩ (g us ws) (gV vs zs) Q E hr I.env0 (hb.to s us ws I.kIn (r.length.symm.trans l1) (rz.length.symm.trans l2)) r2 h) fun r s' hq => ?_)
  cases r with
  | error e => exact hx pins σ H s e s' I hq
  | ok fl =>
    cases fl with
    | ret u => exact I.after hq
    | next => exact False.elim hq
    | brk => exact False.elim hq
    | cont => exact False.elim hq
/-- f(k = v, ..) -/
theorem pe_callK0 (F : FnOk X.prog X.w X.K X.mg X.base CX k f fd ps sp) (hr : Room k X.A) (hg : Gl X x) (hm : X.mg x = some (.ref f)) (hk : PySem.W.keepIn X.K (.ref f) = true) (hb : KBn X.K fd ps 0 ks g gV) (hx : Passes CX X E) (hkw : PK X kws tk)
    (hall : (backToKw pos (keywordEach kws X.env)).all (·.1.isSome) = true := by rfl) (hks : (backToKw pos (keywordEach kws X.env)).filterMap (·.1) = ks := by rfl) (hdb : (x == ("__debug__" : Str)) = false := by decide)
    (hpl : ((backTo pos (starEach [] X.env)).any (·.1) || (backToKw pos (keywordEach kws X.env)).any (·.1.isNone)) = false := by rfl) :
    PE X (.Call (.Name x p) [] kws pos) (tCallKN 0 ks.length sp gV E tNil tk) := by
  refine ⟨fun pins s σ H Q I h => ?_⟩
  refine wpAny_Call_Name_kw (ld_glob I hg hm ?_ hdb)
  refine PySem.W.callWith_KW0 (h₀ := X.base) I.ok.mod.kin hk hall ?_ hpl
  refine thn (hkw.run pos pins s σ H _ I h) fun ws s2 ⟨zs, H2, I2, rz, l1, l2, q2⟩ => ⟨I2.kIn, ?_⟩
  rw [hks]
  exact run_fnN (us := []) (vs := []) F hr hb hx I2 .nil rz rfl l2 q2
/-- o.m(k = v, ..) -/
theorem pe_methK0 {pl : Sem Bool} (he : PE X o ta) (c : Cls X.K C) (hm : Meth X.K C m f) (F : FnOk X.prog X.w X.K X.mg X.base CX k f fd ps sp) (hr : Room k X.A) (hb : KBn X.K fd ps 1 ks g gV) (hx : Passes CX X E) (hkw : PK X kws tk)
    (hall : (backToKw pos (keywordEach kws X.env)).all (·.1.isSome) = true := by rfl) (hks : (backToKw pos (keywordEach kws X.env)).filterMap (·.1) = ks := by rfl)
    (hpl : ((backTo pos (starEach [] X.env)).any (·.1) || (backToKw pos (keywordEach kws X.env)).any (·.1.isNone)) = false := by rfl)
    (ht : eval (.Call (.Attribute o m apos) [] kws pos) X.env = (do
      let ov ← eval o X.env
      standAt apos.atName
      let (f, first) ← holding [ov] (getMethod ov m pl)
      callWith pos f first (backTo pos (starEach [] X.env)) (backToKw pos (keywordEach kws X.env))) := by rfl) :
    PE X (.Call (.Attribute o m apos) [] kws pos) (tMethK C m 0 ks.length sp gV E ta tNil tk) := by
  refine ⟨fun pins s σ H Q I h => ?_⟩
  refine PySem.W.methodCall_KW (pl := pl) (thn (he.run pins s σ H _ I h) fun u s1 ⟨x, H1, I1, rx, a, dx, fs, ex, ea, l, q⟩ => ?_) ht
  subst ex
  obtain rfl : u = Value.ref a := rx
  refine getmeth_ok I1 ea c hm l ?_
  refine PySem.W.callWith_KW0 (first := [.ref a]) (h₀ := X.base) I.ok.mod.kin hm.kp hall ?_ hpl
  refine thn (hkw.run pos pins s1 σ H1 _ I1 q) fun ws s2 ⟨zs, H2, I2, rz, l1, l2, q2⟩ => ⟨I2.kIn, ?_⟩
  rw [hks]
  exact run_fnN (us := [.ref a]) (vs := [.ref a]) F hr hb hx I2 (.cons rfl .nil) rz rfl l2 q2
/-- f(e, ..), f an instance of the class at C -/
def tCallI (C : Addr) (sp : Sp) (dvs : List V) (E : XK) (tf : TE) (t : TA) : TE := fun σ H Q => tf σ H fun y H1 => ∃ a, y = V.ref a ∧ t σ H1 fun vs H2 => ∃ dx fs, H2 a = some (.ins C dx fs) ∧ sp (V.ref a :: (vs ++ dvs)) H2 Q E
theorem pe_callI {fe : Expr} {tf : TE} {dvs : List V} {ds : List Value} (hf : PE X fe tf) (c : StX.CallO X.K C f) (F : FnOk X.prog X.w X.K X.mg X.base CX k f fd ps sp) (hr : Room k X.A) (hb : Binds X.K fd ps ds) (hd : Vals dvs ds) (hx : Passes CX X E) (ha : PA X (e :: es) t)
    (ht : eval (.Call fe (e :: es) [] pos) X.env = (do callWith pos (← eval fe X.env) [] (backTo pos (starEach (e :: es) X.env)) (backToKw pos (keywordEach [] X.env))) := by rfl)
    (he : starEach (e :: es) X.env = (false, eval e X.env) :: starEach es X.env := by rfl) (hpl : (backTo pos (starEach es X.env)).any (·.1) = false := by rfl) : PE X (.Call fe (e :: es) [] pos) (tCallI C sp dvs E tf t) := by
  refine ⟨fun pins s σ H Q I h => ?_⟩
  refine Call_ (thn (hf.run pins s σ H _ I h) fun u s1 ⟨y, H1, I1, ry, a, ey, q⟩ => ?_) ht
  subst ey
  obtain rfl : u = Value.ref a := ry
  refine StX.callO_with (thn (ha.run pos pins s1 σ H1 _ I1 q) fun us s2 ⟨vs, H2, I2, r, dx, fs, hi, q2⟩ => ?_) he hpl
  obtain ⟨ox, od, J, hdt⟩ := StX.insC_at I2 (.inr ⟨dx, fs, hi⟩)
  exact ⟨⟨C, ox, od, J, hdt⟩, StX.run_callO c (F.raw hb hd) hr hx I2 (.inr ⟨dx, fs, hi⟩) r q2⟩
end
/-! ### the rules whose readings name the written part, with it told (for a comprehension's block) -/
section
variable {X : Cx} (K : PySem.W.Frag)
theorem ixT (h : X.K = K := by rfl) : IxR X (rIxT K) := h ▸ ix_tup
theorem ixL (h : X.K = K := by rfl) : IxR X (rIxL K) := h ▸ ix_list
theorem cIsi (h : X.K = K := by rfl) : CallR X (.builtin "isinstance") (rIsi K) := h ▸ call_isi
theorem opEqD (hu : X.A.units + 64 < cLine) (h : X.K = K := by rfl) : OpR X (compareOp .Eq) (rEqD K) := h ▸ op_eqD hu
theorem opNeD (hu : X.A.units + 64 < cLine) (h : X.K = K := by rfl) : OpR X (compareOp .NotEq) (rNeD K) := h ▸ op_neD hu
theorem peFld {e : Expr} {f : Str} {pos : Pos} {ta : TE} (he : PE X e ta) (hb : attributeBase e f X.env (eval e X.env) = eval e X.env := by rfl) (h : X.K = K := by rfl) : PE X (.Attribute e f pos) (tFld K ta f) := h ▸ pe_fld he hb
theorem opOwnEq {CX : CXT} {n : Nat} {C g : Addr} {fd : FuncData} {ps : List Str} {sp : Sp} {E : XK} (F : FnOk X.prog X.w X.K X.mg X.base CX n g fd ps sp) (hb : Binds X.K fd ps []) (hs : PySem.W.findIn X.K (.ref C) "__eq__" = some (some (.ref g)))
    (hf : PySem.W.isFn X.K (.ref g) = true) (hr : Room n X.A) (hx : Passes CX X E) (h : X.K = K := by rfl) : OpR X (compareOp .Eq) (rOwnEq K C sp E) := h ▸ op_ownEq F hb hs hf hr hx
theorem piList {tg l : Expr} {tl : TE} (hl : PE X l tl) (h : X.K = K := by rfl) : PI X tg l (iList K tl) := h ▸ pi_list hl
theorem piTup {tg l : Expr} {tl : TE} (hl : PE X l tl) (h : X.K = K := by rfl) : PI X tg l (iTup K tl) := h ▸ pi_tup hl
theorem pgTup (n : Nat) {es : List Expr} {k : Nat} {t : TGs} {pos : Pos} (hc : X.calm = true) (hh : PGs X es t)
    (hn : (assignEach es X.env).length = n := by rfl) (hst : (assignEach es X.env).findIdx? (·.1) = none := by rfl) (h : X.K = K := by rfl) : PG X (.Tuple es k pos) (gTup K n t) := h ▸ pg_tup hc hh hn hst
end
end WL
namespace WM
/-! ### fractions: core Rat -/
theorem gcd_pos {t b : Int} (hb : b ≠ 0) : 0 < b.gcd t := Int.gcd_pos_of_ne_zero_left _ hb
theorem fdiv_pos' {a : Int} {g : Nat} (hg : 0 < g) : a.fdiv (g : Int) = a / (g : Int) := Int.fdiv_eq_ediv_of_nonneg _ (by omega)
theorem fdiv_dvd {a k g : Int} (hg : g ≠ 0) (h : a = g * k) : a.fdiv g = k := by
  subst h
  rw [Int.mul_comm]
  exact Int.mul_fdiv_cancel _ hg
theorem ediv_dvd {a k g : Int} (hg : g ≠ 0) (h : a = g * k) : a / g = k := by
  subst h
  exact Int.mul_ediv_cancel_left _ hg
/-- what Number keeps above the stroke -/
theorem make_num {t b : Int} {g : Nat} (hb : b ≠ 0) (e : g = Nat.gcd t.natAbs b.natAbs) : t.fdiv (if b < 0 then -(g : Int) else (g : Int)) = (Rat.divInt t b).num := by
  have eg : b.gcd t = g := by rw [e, Int.gcd, Nat.gcd_comm]
  have hg : 0 < g := eg ▸ gcd_pos hb
  rw [Rat.num_divInt, eg]
  have hd : (g : Int) ∣ t := by rw [← eg]; exact Int.gcd_dvd_right ..
  obtain ⟨k, hk⟩ := hd
  have hg' : (g : Int) ≠ 0 := by omega
  by_cases hn : b < 0
  · rw [if_pos hn, Int.sign_eq_neg_one_of_neg hn, fdiv_dvd (k := -k) (by omega) (by rw [hk, Int.neg_mul_neg]), ediv_dvd (k := -k) hg' (by rw [hk, Int.neg_one_mul, Int.mul_neg])]
  · rw [if_neg hn, Int.sign_eq_one_of_pos (by omega), fdiv_dvd hg' hk, ediv_dvd (k := k) hg' (by rw [hk, Int.one_mul])]
theorem make_den {t b : Int} {g : Nat} (hb : b ≠ 0) (e : g = Nat.gcd t.natAbs b.natAbs) : b.fdiv (if b < 0 then -(g : Int) else (g : Int)) = ((Rat.divInt t b).den : Int) := by
  have eg : b.gcd t = g := by rw [e, Int.gcd, Nat.gcd_comm]
  have hg : 0 < g := eg ▸ gcd_pos hb
  rw [Rat.den_divInt, if_neg hb, eg]
  have hd : (g : Int) ∣ b := by rw [← eg]; exact Int.gcd_dvd_left ..
  obtain ⟨k, hk⟩ := hd
  have hg' : (g : Int) ≠ 0 := by omega
  have h2 : b.natAbs / g = k.natAbs := by
    rw [hk, Int.natAbs_mul, Int.natAbs_natCast]
    exact Nat.mul_div_cancel_left _ hg
  have hp : 0 < (g : Int) := by omega
  rw [h2]
  by_cases hn : b < 0
  · rw [if_pos hn, fdiv_dvd (k := -k) (by omega) (by rw [hk, Int.neg_mul_neg])]
    have : k < 0 := by
      rcases Int.lt_or_le k 0 with h | h
      · exact h
      · have := Int.mul_nonneg (Int.le_of_lt hp) h
        omega
    omega
  · rw [if_neg hn, fdiv_dvd hg' hk]
    have : 0 ≤ k := by
      rcases Int.lt_or_le k 0 with h | h
      · have := Int.mul_neg_of_pos_of_neg hp h
        omega
      · exact h
    omega
/-- what a law's own reduction gives: sign * t // g, |b| // g -/
theorem least_num {t b : Int} {g : Nat} (hb : b ≠ 0) (e : g = Nat.gcd t.natAbs b.natAbs) : ((if b < 0 then -1 else 1) * t).fdiv (g : Int) = (Rat.divInt t b).num := by
  have eg : b.gcd t = g := by rw [e, Int.gcd, Nat.gcd_comm]
  have hg : 0 < g := eg ▸ gcd_pos hb
  rw [Rat.num_divInt, eg, fdiv_pos' hg]
  by_cases hn : b < 0
  · rw [if_pos hn, Int.sign_eq_neg_one_of_neg hn]
  · rw [if_neg hn, Int.sign_eq_one_of_pos (by omega)]
theorem least_den {t b : Int} {g : Nat} (hb : b ≠ 0) (e : g = Nat.gcd t.natAbs b.natAbs) : (if b < 0 then -b else b).fdiv (g : Int) = ((Rat.divInt t b).den : Int) := by
  have eg : b.gcd t = g := by rw [e, Int.gcd, Nat.gcd_comm]
  have hg : 0 < g := eg ▸ gcd_pos hb
  rw [Rat.den_divInt, if_neg hb, eg, fdiv_pos' hg]
  have : (if b < 0 then -b else b) = (b.natAbs : Int) := by split <;> omega
  rw [this]
  rfl
theorem gcd_ne {t b : Int} {g : Nat} (hb : b ≠ 0) (e : g = Nat.gcd t.natAbs b.natAbs) : 0 < g := by
  have eg : b.gcd t = g := by rw [e, Int.gcd, Nat.gcd_comm]
  exact eg ▸ gcd_pos hb
theorem gcd_le {t b : Int} {g : Nat} (hb : b ≠ 0) (e : g = Nat.gcd t.natAbs b.natAbs) : g ≤ b.natAbs := by
  rw [e]
  exact Nat.gcd_le_right _ (by omega)
/-! ### sizes -/
def Bd (n : Nat) (q : Rat) : Prop := q.num.natAbs < 2 ^ n ∧ q.den < 2 ^ n
theorem two_le {m n : Nat} (h : m ≤ n) : 2 ^ m ≤ 2 ^ n := Nat.pow_le_pow_right (by decide) h
theorem Bd.mono {m n : Nat} {q : Rat} (h : Bd m q) (l : m ≤ n) : Bd n q := ⟨Nat.lt_of_lt_of_le h.1 (two_le l), Nat.lt_of_lt_of_le h.2 (two_le l)⟩
theorem den_ne (q : Rat) : (q.den : Int) ≠ 0 := by have := q.den_pos; omega
theorem den_pos' (q : Rat) : 0 < (q.den : Int) := by have := q.den_pos; omega
theorem Bd.mk' {n : Nat} {t b : Int} (hb : b ≠ 0) (h1 : t.natAbs < 2 ^ n) (h2 : b.natAbs < 2 ^ n) : Bd n (Rat.divInt t b) := by
  refine ⟨?_, ?_⟩
  · rw [Rat.num_divInt]
    refine Nat.lt_of_le_of_lt ?_ h1
    have hg : 0 < b.gcd t := gcd_pos hb
    have hd : ((b.gcd t : Nat) : Int) ∣ b.sign * t := Int.dvd_mul_of_dvd_right (Int.gcd_dvd_right ..)
    obtain ⟨k, hk⟩ := hd
    rw [ediv_dvd (k := k) (by omega) hk]
    have h3 : (b.sign * t).natAbs = t.natAbs := by
      rw [Int.natAbs_mul, Int.natAbs_sign_of_ne_zero hb, Nat.one_mul]
    have h4 : (b.sign * t).natAbs = b.gcd t * k.natAbs := by rw [hk, Int.natAbs_mul, Int.natAbs_natCast]
    rw [← h3, h4]
    exact Nat.le_mul_of_pos_left _ hg
  · rw [Rat.den_divInt, if_neg hb]
    exact Nat.lt_of_le_of_lt (Nat.div_le_self _ _) h2
theorem add_eq (p q : Rat) : Rat.divInt (p.num * q.den + q.num * p.den) (p.den * q.den) = p + q := by
  conv => rhs; rw [← Rat.num_divInt_den p, ← Rat.num_divInt_den q]
  rw [Rat.divInt_add_divInt _ _ (den_ne p) (den_ne q)]
theorem sub_eq (p q : Rat) : Rat.divInt (p.num * q.den - q.num * p.den) (p.den * q.den) = p - q := by
  conv => rhs; rw [← Rat.num_divInt_den p, ← Rat.num_divInt_den q]
  rw [Rat.divInt_sub_divInt _ _ (den_ne p) (den_ne q)]
theorem mul_eq (p q : Rat) : Rat.divInt (p.num * q.num) (p.den * q.den) = p * q := by
  conv => rhs; rw [← Rat.num_divInt_den p, ← Rat.num_divInt_den q]
  rw [Rat.divInt_mul_divInt]
theorem div_eq (p q : Rat) : Rat.divInt (p.num * q.den) (p.den * q.num) = p / q := by
  rw [Rat.div_def, Rat.inv_def]
  conv => rhs; rw [← Rat.num_divInt_den p]
  rw [Rat.divInt_mul_divInt]
theorem neg_eq (p : Rat) : Rat.divInt (-p.num) p.den = -p := by
  conv => rhs; rw [← Rat.num_divInt_den p]
  rw [Rat.neg_divInt]
theorem mul_lt {a b m n : Nat} (ha : a < 2 ^ m) (hb : b < 2 ^ n) : a * b < 2 ^ (m + n) := by
  rw [Nat.pow_add]
  exact Nat.mul_lt_mul'' ha hb
theorem imul_lt {a b : Int} {m n : Nat} (ha : a.natAbs < 2 ^ m) (hb : b.natAbs < 2 ^ n) : (a * b).natAbs < 2 ^ (m + n) := by
  rw [Int.natAbs_mul]
  exact mul_lt ha hb
theorem iadd_lt {a b : Int} {n : Nat} (ha : a.natAbs < 2 ^ n) (hb : b.natAbs < 2 ^ n) : (a + b).natAbs < 2 ^ (n + 1) := by
  have : (a + b).natAbs ≤ a.natAbs + b.natAbs := Int.natAbs_add_le a b
  rw [Nat.pow_succ]
  omega
theorem isub_lt {a b : Int} {n : Nat} (ha : a.natAbs < 2 ^ n) (hb : b.natAbs < 2 ^ n) : (a - b).natAbs < 2 ^ (n + 1) := by
  have : (a - b).natAbs ≤ a.natAbs + b.natAbs := by omega
  rw [Nat.pow_succ]
  omega
theorem up_lt {a m n : Nat} (h : a < 2 ^ m) (l : m ≤ n) : a < 2 ^ n := Nat.lt_of_lt_of_le h (two_le l)
theorem Bd.den' {n : Nat} {q : Rat} (h : Bd n q) : ((q.den : Int)).natAbs < 2 ^ n := by rw [Int.natAbs_natCast]; exact h.2
theorem Bd.add {m n : Nat} {p q : Rat} (h : Bd m p) (k : Bd n q) : Bd (m + n + 1) (p + q) := by
  rw [← add_eq]
  refine Bd.mk' (Int.mul_ne_zero (den_ne p) (den_ne q)) (iadd_lt (imul_lt h.1 k.den') (up_lt (imul_lt k.1 h.den') (by omega))) (up_lt (imul_lt h.den' k.den') (by omega))
theorem Bd.sub {m n : Nat} {p q : Rat} (h : Bd m p) (k : Bd n q) : Bd (m + n + 1) (p - q) := by
  rw [← sub_eq]
  refine Bd.mk' (Int.mul_ne_zero (den_ne p) (den_ne q)) (isub_lt (imul_lt h.1 k.den') (up_lt (imul_lt k.1 h.den') (by omega))) (up_lt (imul_lt h.den' k.den') (by omega))
theorem Bd.mul {m n : Nat} {p q : Rat} (h : Bd m p) (k : Bd n q) : Bd (m + n) (p * q) := by
  rw [← mul_eq]
  exact Bd.mk' (Int.mul_ne_zero (den_ne p) (den_ne q)) (imul_lt h.1 k.1) (imul_lt h.den' k.den')
theorem num_ne {q : Rat} (h : q ≠ 0) : q.num ≠ 0 := fun e => h (Rat.num_eq_zero.mp e)
theorem Bd.div {m n : Nat} {p q : Rat} (h : Bd m p) (k : Bd n q) (hq : q ≠ 0) : Bd (m + n) (p / q) := by
  rw [← div_eq]
  exact Bd.mk' (Int.mul_ne_zero (den_ne p) (num_ne hq)) (imul_lt h.1 k.den') (imul_lt h.den' k.1)
theorem Bd.neg {m : Nat} {p : Rat} (h : Bd m p) : Bd m (-p) := by
  refine ⟨?_, ?_⟩
  · rw [show (-p).num = -p.num from rfl, Int.natAbs_neg]; exact h.1
  · rw [show (-p).den = p.den from rfl]; exact h.2
theorem log2_lt {a n : Nat} (h0 : 0 < n) (h : a < 2 ^ n) : a.log2 < n := by
  by_cases ha : a = 0
  · subst ha; rw [Nat.log2_zero]; exact h0
  · exact (Nat.log2_lt ha).mpr h
/-- equal fractions: the same above and below -/
theorem eq_iff (p q : Rat) : p = q ↔ p.num = q.num ∧ p.den = q.den := ⟨fun e => by rw [e]; exact ⟨rfl, rfl⟩, fun ⟨a, b⟩ => Rat.ext a b⟩
end WM
namespace Q
open PySem PySem.Spec PyProof.Rows L2 WL WM
def top (i : Nat) : Stmt := PySem.Challenge.pw_whatspeed_k05_lines.main.body.getD i (.Pass ⟨0, 0, 0, 0⟩)
abbrev s_is_integer : Stmt := top 5
abbrev N_is_integer : List Str := ["value"]
theorem sc_is_integer : FnScope ["value"] ["value"] (defScope s_is_integer) := ⟨rfl, rfl, rfl, by decide +kernel, rfl, by decide +kernel, by decide +kernel⟩
abbrev s_shared_divisor : Stmt := top 7
abbrev N_shared_divisor : List Str := ["one", "other"]
theorem sc_shared_divisor : FnScope ["one", "other"] ["one", "other"] (defScope s_shared_divisor) := ⟨rfl, rfl, rfl, by decide +kernel, rfl, by decide +kernel, by decide +kernel⟩
abbrev s_Number_init : Stmt := inClass (top 8) 0
abbrev N_Number_init : List Str := ["self", "top", "bottom", "shared"]
theorem sc_Number_init : FnScope ["self", "top", "bottom", "shared"] ["self", "top", "bottom"] (defScope s_Number_init) := ⟨rfl, rfl, rfl, by decide +kernel, rfl, by decide +kernel, by decide +kernel⟩
abbrev s_Number_top : Stmt := inClass (top 8) 1
abbrev N_Number_top : List Str := ["self"]
theorem sc_Number_top : FnScope ["self"] ["self"] (defScope s_Number_top) := ⟨rfl, rfl, rfl, by decide +kernel, rfl, by decide +kernel, by decide +kernel⟩
abbrev s_Number_bottom : Stmt := inClass (top 8) 2
abbrev N_Number_bottom : List Str := ["self"]
theorem sc_Number_bottom : FnScope ["self"] ["self"] (defScope s_Number_bottom) := ⟨rfl, rfl, rfl, by decide +kernel, rfl, by decide +kernel, by decide +kernel⟩
abbrev s_Number_eq : Stmt := inClass (top 8) 3
abbrev N_Number_eq : List Str := ["self", "other"]
theorem sc_Number_eq : FnScope ["self", "other"] ["self", "other"] (defScope s_Number_eq) := ⟨rfl, rfl, rfl, by decide +kernel, rfl, by decide +kernel, by decide +kernel⟩
abbrev s_Number_add : Stmt := inClass (top 8) 5
abbrev N_Number_add : List Str := ["self", "other", "top"]
theorem sc_Number_add : FnScope ["self", "other", "top"] ["self", "other"] (defScope s_Number_add) := ⟨rfl, rfl, rfl, by decide +kernel, rfl, by decide +kernel, by decide +kernel⟩
abbrev s_Number_sub : Stmt := inClass (top 8) 6
abbrev N_Number_sub : List Str := ["self", "other", "top"]
theorem sc_Number_sub : FnScope ["self", "other", "top"] ["self", "other"] (defScope s_Number_sub) := ⟨rfl, rfl, rfl, by decide +kernel, rfl, by decide +kernel, by decide +kernel⟩
abbrev s_Number_mul : Stmt := inClass (top 8) 7
abbrev N_Number_mul : List Str := ["self", "other"]
theorem sc_Number_mul : FnScope ["self", "other"] ["self", "other"] (defScope s_Number_mul) := ⟨rfl, rfl, rfl, by decide +kernel, rfl, by decide +kernel, by decide +kernel⟩
abbrev s_Line_init : Stmt := inClass (top 9) 0
abbrev N_Line_init : List Str := ["self", "base", "slope"]
theorem sc_Line_init : FnScope ["self", "base", "slope"] ["self", "base", "slope"] (defScope s_Line_init) := ⟨rfl, rfl, rfl, by decide +kernel, rfl, by decide +kernel, by decide +kernel⟩
abbrev s_Line_base : Stmt := inClass (top 9) 1
abbrev N_Line_base : List Str := ["self"]
theorem sc_Line_base : FnScope ["self"] ["self"] (defScope s_Line_base) := ⟨rfl, rfl, rfl, by decide +kernel, rfl, by decide +kernel, by decide +kernel⟩
abbrev s_Line_slope : Stmt := inClass (top 9) 2
abbrev N_Line_slope : List Str := ["self"]
theorem sc_Line_slope : FnScope ["self"] ["self"] (defScope s_Line_slope) := ⟨rfl, rfl, rfl, by decide +kernel, rfl, by decide +kernel, by decide +kernel⟩
abbrev s_Line_call : Stmt := inClass (top 9) 3
abbrev N_Line_call : List Str := ["self", "s"]
theorem sc_Line_call : FnScope ["self", "s"] ["self", "s"] (defScope s_Line_call) := ⟨rfl, rfl, rfl, by decide +kernel, rfl, by decide +kernel, by decide +kernel⟩
abbrev s_Line_eq : Stmt := inClass (top 9) 4
abbrev N_Line_eq : List Str := ["self", "other"]
theorem sc_Line_eq : FnScope ["self", "other"] ["self", "other"] (defScope s_Line_eq) := ⟨rfl, rfl, rfl, by decide +kernel, rfl, by decide +kernel, by decide +kernel⟩
abbrev s_Line_add : Stmt := inClass (top 9) 5
abbrev N_Line_add : List Str := ["self", "other"]
theorem sc_Line_add : FnScope ["self", "other"] ["self", "other"] (defScope s_Line_add) := ⟨rfl, rfl, rfl, by decide +kernel, rfl, by decide +kernel, by decide +kernel⟩
abbrev s_Line_sub : Stmt := inClass (top 9) 6
abbrev N_Line_sub : List Str := ["self", "other"]
theorem sc_Line_sub : FnScope ["self", "other"] ["self", "other"] (defScope s_Line_sub) := ⟨rfl, rfl, rfl, by decide +kernel, rfl, by decide +kernel, by decide +kernel⟩
abbrev s_law_pot : Stmt := top 11
abbrev N_law_pot : List Str := ["script", "k", "cell", "own"]
theorem sc_law_pot : FnScope ["script", "k", "cell", "own"] ["script", "k"] (defScope s_law_pot) := ⟨rfl, rfl, rfl, by decide +kernel, rfl, by decide +kernel, by decide +kernel⟩
abbrev s_law_take : Stmt := top 12
abbrev N_law_take : List Str := ["pot", "upto", "digit", "prime", "mixed"]
theorem sc_law_take : FnScope ["pot", "upto", "digit", "prime", "mixed"] ["pot", "upto"] (defScope s_law_take) := ⟨rfl, rfl, rfl, by decide +kernel, rfl, by decide +kernel, by decide +kernel⟩
abbrev s_law_of : Stmt := top 13
abbrev N_law_of : List Str := ["pot", "some"]
theorem sc_law_of : FnScope ["pot", "some"] ["pot", "some"] (defScope s_law_of) := ⟨rfl, rfl, rfl, by decide +kernel, rfl, by decide +kernel, by decide +kernel⟩
abbrev s_law_least : Stmt := top 14
abbrev N_law_least : List Str := ["above", "below", "one", "rest", "sign"]
theorem sc_law_least : FnScope ["above", "below", "one", "rest", "sign"] ["above", "below"] (defScope s_law_least) := ⟨rfl, rfl, rfl, by decide +kernel, rfl, by decide +kernel, by decide +kernel⟩
abbrev s_law_drawn : Stmt := top 15
abbrev N_law_drawn : List Str := ["pot", "above"]
theorem sc_law_drawn : FnScope ["pot", "above"] ["pot"] (defScope s_law_drawn) := ⟨rfl, rfl, rfl, by decide +kernel, rfl, by decide +kernel, by decide +kernel⟩
abbrev s_law_made : Stmt := top 16
abbrev N_law_made : List Str := ["pair"]
theorem sc_law_made : FnScope ["pair"] ["pair"] (defScope s_law_made) := ⟨rfl, rfl, rfl, by decide +kernel, rfl, by decide +kernel, by decide +kernel⟩
abbrev s_law_is_number : Stmt := top 17
abbrev N_law_is_number : List Str := ["told", "due"]
theorem sc_law_is_number : FnScope ["told", "due"] ["told", "due"] (defScope s_law_is_number) := ⟨rfl, rfl, rfl, by decide +kernel, rfl, by decide +kernel, by decide +kernel⟩
abbrev s_law_value : Stmt := top 18
abbrev N_law_value : List Str := ["a", "b", "s"]
theorem sc_law_value : FnScope ["a", "b", "s"] ["a", "b", "s"] (defScope s_law_value) := ⟨rfl, rfl, rfl, by decide +kernel, rfl, by decide +kernel, by decide +kernel⟩
abbrev s_law_joint : Stmt := top 19
abbrev N_law_joint : List Str := ["one", "two", "sign"]
theorem sc_law_joint : FnScope ["one", "two", "sign"] ["one", "two", "sign"] (defScope s_law_joint) := ⟨rfl, rfl, rfl, by decide +kernel, rfl, by decide +kernel, by decide +kernel⟩
abbrev s_law_is_right : Stmt := top 20
abbrev N_law_is_right : List Str := ["pot", "a", "b", "c", "d", "first", "second", "more", "less", "s", "spot", "one", "two", "told", "this", "due", "again", "beside", "odd"]
theorem sc_law_is_right : FnScope ["pot", "a", "b", "c", "d", "first", "second", "more", "less", "s", "spot", "one", "two", "told", "this", "due", "again", "beside", "odd"] ["pot"] (defScope s_law_is_right) := ⟨rfl, rfl, rfl, by decide +kernel, rfl, by decide +kernel, by decide +kernel⟩
abbrev s_law : Stmt := top 21
abbrev N_law : List Str := ["script", "k", "pot", "turn"]
theorem sc_law : FnScope ["script", "k", "pot", "turn"] ["script"] (defScope s_law) := ⟨rfl, rfl, rfl, by decide +kernel, rfl, by decide +kernel, by decide +kernel⟩
structure Ad where
  c_Number : Addr
  c_Line : Addr
  f_is_integer : Addr
  d_is_integer : FuncData
  f_shared_divisor : Addr
  d_shared_divisor : FuncData
  f_Number_init : Addr
  d_Number_init : FuncData
  f_Number_top : Addr
  d_Number_top : FuncData
  p_Number_top : Addr
  f_Number_bottom : Addr
  d_Number_bottom : FuncData
  p_Number_bottom : Addr
  f_Number_eq : Addr
  d_Number_eq : FuncData
  f_Number_add : Addr
  d_Number_add : FuncData
  f_Number_sub : Addr
  d_Number_sub : FuncData
  f_Number_mul : Addr
  d_Number_mul : FuncData
  f_Line_init : Addr
  d_Line_init : FuncData
  f_Line_base : Addr
  d_Line_base : FuncData
  p_Line_base : Addr
  f_Line_slope : Addr
  d_Line_slope : FuncData
  p_Line_slope : Addr
  f_Line_call : Addr
  d_Line_call : FuncData
  f_Line_eq : Addr
  d_Line_eq : FuncData
  f_Line_add : Addr
  d_Line_add : FuncData
  f_Line_sub : Addr
  d_Line_sub : FuncData
  f_law_pot : Addr
  d_law_pot : FuncData
  f_law_take : Addr
  d_law_take : FuncData
  f_law_of : Addr
  d_law_of : FuncData
  f_law_least : Addr
  d_law_least : FuncData
  f_law_drawn : Addr
  d_law_drawn : FuncData
  f_law_made : Addr
  d_law_made : FuncData
  f_law_is_number : Addr
  d_law_is_number : FuncData
  f_law_value : Addr
  d_law_value : FuncData
  f_law_joint : Addr
  d_law_joint : FuncData
  f_law_is_right : Addr
  d_law_is_right : FuncData
  f_law : Addr
  d_law : FuncData
structure Txt (K : PySem.W.Frag) (mg : Str → Option Value) (A : Ad) : Prop where
  g_Number : mg "Number" = some (.ref A.c_Number)
  cl_Number : Cls K A.c_Number
  M_Number : Mk K A.c_Number A.f_Number_init
  sf_Number : PySem.W.selfFirst K A.c_Number = true
  ca_Number : PySem.W.findIn K (.ref A.c_Number) "__class__" = some (some (.builtin "object.__class__"))
  cm_Number : PySem.W.mroIn K A.c_Number (.type "object") = some true
  n_Number_own_top : NoAttr K A.c_Number "own_top"
  n_Number_own_bottom : NoAttr K A.c_Number "own_bottom"
  g_Line : mg "Line" = some (.ref A.c_Line)
  cl_Line : Cls K A.c_Line
  M_Line : Mk K A.c_Line A.f_Line_init
  sf_Line : PySem.W.selfFirst K A.c_Line = true
  ca_Line : PySem.W.findIn K (.ref A.c_Line) "__class__" = some (some (.builtin "object.__class__"))
  cm_Line : PySem.W.mroIn K A.c_Line (.type "object") = some true
  n_Line_own_base : NoAttr K A.c_Line "own_base"
  n_Line_own_slope : NoAttr K A.c_Line "own_slope"
  cn : PySem.W.specialIn K (.builtin "object.__class__") "__get__" = some (some (.builtin "getset_descriptor.__get__"))
  ct : PySem.W.takesIn K (.builtin "object.__class__") = some true
  g_is_integer : mg "is_integer" = some (.ref A.f_is_integer)
  F_is_integer : Fun K "is_integer" "is_integer" s_is_integer A.f_is_integer A.d_is_integer
  b_is_integer : Binds K A.d_is_integer ["value"] []
  g_shared_divisor : mg "shared_divisor" = some (.ref A.f_shared_divisor)
  F_shared_divisor : Fun K "shared_divisor" "shared_divisor" s_shared_divisor A.f_shared_divisor A.d_shared_divisor
  b_shared_divisor : Binds K A.d_shared_divisor ["one", "other"] []
  m_Number_init : Meth K A.c_Number "__init__" A.f_Number_init
  F_Number_init : FunD K "__init__" "Number.__init__" (defArgs s_Number_init) (defBody s_Number_init) (defScope s_Number_init) [.int 1] [] A.f_Number_init A.d_Number_init
  P_Number_top : PropOf K A.c_Number "top" A.p_Number_top A.f_Number_top
  F_Number_top : Fun K "top" "Number.top" s_Number_top A.f_Number_top A.d_Number_top
  b_Number_top : Binds K A.d_Number_top ["self"] []
  P_Number_bottom : PropOf K A.c_Number "bottom" A.p_Number_bottom A.f_Number_bottom
  F_Number_bottom : Fun K "bottom" "Number.bottom" s_Number_bottom A.f_Number_bottom A.d_Number_bottom
  b_Number_bottom : Binds K A.d_Number_bottom ["self"] []
  m_Number_eq : Meth K A.c_Number "__eq__" A.f_Number_eq
  F_Number_eq : Fun K "__eq__" "Number.__eq__" s_Number_eq A.f_Number_eq A.d_Number_eq
  b_Number_eq : Binds K A.d_Number_eq ["self", "other"] []
  m_Number_add : Meth K A.c_Number "__add__" A.f_Number_add
  F_Number_add : Fun K "__add__" "Number.__add__" s_Number_add A.f_Number_add A.d_Number_add
  b_Number_add : Binds K A.d_Number_add ["self", "other"] []
  m_Number_sub : Meth K A.c_Number "__sub__" A.f_Number_sub
  F_Number_sub : Fun K "__sub__" "Number.__sub__" s_Number_sub A.f_Number_sub A.d_Number_sub
  b_Number_sub : Binds K A.d_Number_sub ["self", "other"] []
  m_Number_mul : Meth K A.c_Number "__mul__" A.f_Number_mul
  F_Number_mul : Fun K "__mul__" "Number.__mul__" s_Number_mul A.f_Number_mul A.d_Number_mul
  b_Number_mul : Binds K A.d_Number_mul ["self", "other"] []
  m_Line_init : Meth K A.c_Line "__init__" A.f_Line_init
  F_Line_init : Fun K "__init__" "Line.__init__" s_Line_init A.f_Line_init A.d_Line_init
  b_Line_init : Binds K A.d_Line_init ["self", "base", "slope"] []
  P_Line_base : PropOf K A.c_Line "base" A.p_Line_base A.f_Line_base
  F_Line_base : Fun K "base" "Line.base" s_Line_base A.f_Line_base A.d_Line_base
  b_Line_base : Binds K A.d_Line_base ["self"] []
  P_Line_slope : PropOf K A.c_Line "slope" A.p_Line_slope A.f_Line_slope
  F_Line_slope : Fun K "slope" "Line.slope" s_Line_slope A.f_Line_slope A.d_Line_slope
  b_Line_slope : Binds K A.d_Line_slope ["self"] []
  m_Line_call : Meth K A.c_Line "__call__" A.f_Line_call
  co_Line_call : StX.CallO K A.c_Line A.f_Line_call
  F_Line_call : Fun K "__call__" "Line.__call__" s_Line_call A.f_Line_call A.d_Line_call
  b_Line_call : Binds K A.d_Line_call ["self", "s"] []
  m_Line_eq : Meth K A.c_Line "__eq__" A.f_Line_eq
  F_Line_eq : Fun K "__eq__" "Line.__eq__" s_Line_eq A.f_Line_eq A.d_Line_eq
  b_Line_eq : Binds K A.d_Line_eq ["self", "other"] []
  m_Line_add : Meth K A.c_Line "__add__" A.f_Line_add
  F_Line_add : Fun K "__add__" "Line.__add__" s_Line_add A.f_Line_add A.d_Line_add
  b_Line_add : Binds K A.d_Line_add ["self", "other"] []
  m_Line_sub : Meth K A.c_Line "__sub__" A.f_Line_sub
  F_Line_sub : Fun K "__sub__" "Line.__sub__" s_Line_sub A.f_Line_sub A.d_Line_sub
  b_Line_sub : Binds K A.d_Line_sub ["self", "other"] []
  g_law_pot : mg "_law_pot" = some (.ref A.f_law_pot)
  F_law_pot : Fun K "_law_pot" "_law_pot" s_law_pot A.f_law_pot A.d_law_pot
  b_law_pot : Binds K A.d_law_pot ["script", "k"] []
  g_law_take : mg "_law_take" = some (.ref A.f_law_take)
  F_law_take : Fun K "_law_take" "_law_take" s_law_take A.f_law_take A.d_law_take
  b_law_take : Binds K A.d_law_take ["pot", "upto"] []
  g_law_of : mg "_law_of" = some (.ref A.f_law_of)
  F_law_of : Fun K "_law_of" "_law_of" s_law_of A.f_law_of A.d_law_of
  b_law_of : Binds K A.d_law_of ["pot", "some"] []
  g_law_least : mg "_law_least" = some (.ref A.f_law_least)
  F_law_least : Fun K "_law_least" "_law_least" s_law_least A.f_law_least A.d_law_least
  b_law_least : Binds K A.d_law_least ["above", "below"] []
  g_law_drawn : mg "_law_drawn" = some (.ref A.f_law_drawn)
  F_law_drawn : Fun K "_law_drawn" "_law_drawn" s_law_drawn A.f_law_drawn A.d_law_drawn
  b_law_drawn : Binds K A.d_law_drawn ["pot"] []
  g_law_made : mg "_law_made" = some (.ref A.f_law_made)
  F_law_made : Fun K "_law_made" "_law_made" s_law_made A.f_law_made A.d_law_made
  b_law_made : Binds K A.d_law_made ["pair"] []
  g_law_is_number : mg "_law_is_number" = some (.ref A.f_law_is_number)
  F_law_is_number : Fun K "_law_is_number" "_law_is_number" s_law_is_number A.f_law_is_number A.d_law_is_number
  b_law_is_number : Binds K A.d_law_is_number ["told", "due"] []
  g_law_value : mg "_law_value" = some (.ref A.f_law_value)
  F_law_value : Fun K "_law_value" "_law_value" s_law_value A.f_law_value A.d_law_value
  b_law_value : Binds K A.d_law_value ["a", "b", "s"] []
  g_law_joint : mg "_law_joint" = some (.ref A.f_law_joint)
  F_law_joint : Fun K "_law_joint" "_law_joint" s_law_joint A.f_law_joint A.d_law_joint
  b_law_joint : Binds K A.d_law_joint ["one", "two", "sign"] []
  g_law_is_right : mg "_law_is_right" = some (.ref A.f_law_is_right)
  F_law_is_right : Fun K "_law_is_right" "_law_is_right" s_law_is_right A.f_law_is_right A.d_law_is_right
  b_law_is_right : Binds K A.d_law_is_right ["pot"] []
  F_law : Fun K "law" "law" s_law A.f_law A.d_law
  b_law : Binds K A.d_law ["script"] []
  z_isinstance : mg "isinstance" = none
  z_int : mg "int" = none
  z_bool : mg "bool" = none
  z_abs : mg "abs" = none
  z_len : mg "len" = none
  z_max : mg "max" = none
  z_min : mg "min" = none
  z_range : mg "range" = none
  z_all : mg "all" = none
  z_any : mg "any" = none
  kit_NumNum : PySem.W.kitOne K (.ref A.c_Number) (.ref A.c_Number) = some true
  kit_LinLin : PySem.W.kitOne K (.ref A.c_Line) (.ref A.c_Line) = some true
  kit_NumLin : PySem.W.kitOne K (.ref A.c_Number) (.ref A.c_Line) = some false
  kit_nonLin : PySem.W.kitOne K (.type "NoneType") (.ref A.c_Line) = some false
  kit_intLin : PySem.W.kitOne K (.type "int") (.ref A.c_Line) = some false
  kit_strLin : PySem.W.kitOne K (.type "str") (.ref A.c_Line) = some false
  kit_tupLin : PySem.W.kitOne K (.type "tuple") (.ref A.c_Line) = some false
  kit_lstLin : PySem.W.kitOne K (.type "list") (.ref A.c_Line) = some false
  kit_blLin : PySem.W.kitOne K (.type "bool") (.ref A.c_Line) = some false
  ne_Line : PySem.W.findIn K (.ref A.c_Line) "__ne__" = some (some (.builtin "object.__ne__"))
  sub_NumLin : PySem.W.subIn K (.ref A.c_Number) (.ref A.c_Line) = some false
  sub_nonLin : PySem.W.subIn K (.type "NoneType") (.ref A.c_Line) = some false
  sub_intLin : PySem.W.subIn K (.type "int") (.ref A.c_Line) = some false
  sub_strLin : PySem.W.subIn K (.type "str") (.ref A.c_Line) = some false
  sub_tupLin : PySem.W.subIn K (.type "tuple") (.ref A.c_Line) = some false
  sub_lstLin : PySem.W.subIn K (.type "list") (.ref A.c_Line) = some false
  sub_blLin : PySem.W.subIn K (.type "bool") (.ref A.c_Line) = some false
section
variable {P : Program} {w : World} {K : PySem.W.Frag} {mg : Str → Option Value} {base : Heap} {A : Ad}
/-- an int is an integer -/
def spIsInt : Sp := fun vs H Q _ => ∃ i : Int, vs = [.int i] ∧ Q (.bl true) H
theorem ok_is_integer (T : Txt K mg A) : FnOk P w K mg base CX0 1 A.f_is_integer A.d_is_integer ["value"] spIsInt := by
  refine T.F_is_integer.ok sc_is_integer (fun vs H Q E h => ?_) (fun cdv B outer s H vs Q E hr h => ?_)
  · obtain ⟨i, rfl, _⟩ := h
    rfl
  · obtain ⟨i, rfl, k⟩ := h
    refine ⟨_, pss_one (ps_ret (pe_and (pe_callB call_isi (by rfl) T.z_isinstance (by decide +kernel) (pa_cons (pv 0) (pa_cons (pe_bltn (v := .ty "int") (by rfl) T.z_int (by decide +kernel) rfl) pa_nil)))
      (pe_one (pe_not (pe_callB call_isi (by rfl) T.z_isinstance (by decide +kernel) (pa_cons (pv 0) (pa_cons (pe_bltn (v := .ty "bool") (by rfl) T.z_bool (by decide +kernel) rfl) pa_nil))))))), ?_⟩
    refine ⟨_, rfl, _, _, _, _, true, rfl, .ty "int", .base (.int i), kit_ty (by decide +kernel), true, rfl, ?_⟩
    refine iteT ?_
    refine ⟨_, rfl, _, _, _, _, false, rfl, .ty "bool", .base (.int i), kit_ty (by decide +kernel), false, rfl, ?_⟩
    exact k
end
section
variable {P : Program} {w : World} {K : PySem.W.Frag} {mg : Str → Option Value} {base : Heap} {A : Ad}
def spGcd : Sp := fun vs H Q _ => ∃ a b : Nat, vs = [.int a, .int b] ∧ Q (.int (Nat.gcd a b : Nat)) H
def natAt (σ : L2.St) (i : Nat) : Nat := match σ[i]? with
  | some (some (.int k)) => k.toNat
  | _ => 0
theorem ok_shared_divisor (T : Txt K mg A) : FnOk P w K mg base CX0 1 A.f_shared_divisor A.d_shared_divisor ["one", "other"] spGcd := by
  refine T.F_shared_divisor.ok sc_shared_divisor (fun vs H Q E h => ?_) (fun cdv B outer s H vs Q E hr h => ?_)
  · obtain ⟨a, b, rfl, _⟩ := h
    rfl
  · obtain ⟨a, b, rfl, k⟩ := h
    refine ⟨_, pss_cons (ps_while PassesOwn.never (pt_cmpR op_ne (pv 1) pe_int (nomark _))
      (pss_one (ps_par (i := 0) (j := 1) rfl sc_shared_divisor.nd rfl rfl (by decide) rfl rfl (pa_cons (pv 1) (pa_cons (pe_op op_mod (pv 0) (pv 1)) pa_nil)) (by rfl))))
      (pss_one (ps_ret (pv 0))), ?_⟩
    refine while_by (fun σ H' => ∃ c d : Nat, σ = [some (.int c), some (.int d)] ∧ Nat.gcd c d = Nat.gcd a b ∧ H' = H) (fun σ _ => natAt σ 1) ⟨a, b, rfl, rfl, rfl⟩ ?_ ?_
    · rintro σ H' ⟨c, d, rfl, hg, rfl⟩
      refine ⟨_, rfl, rfl, _, rfl, ?_⟩
      by_cases hd : d = 0
      · subst hd
        refine iteF ?_
        rw [Nat.gcd_zero_right] at hg
        refine ⟨_, rfl, ?_⟩
        rw [hg]
        exact k
      · have hne : (!decide (V.int (d : Int) = V.int 0)) = true := by
          have : ¬ (V.int (d : Int) = V.int 0) := fun e => hd (by injection e with e; omega)
          rw [decide_eq_false this]
          rfl
        rw [hne]
        refine iteT ?_
        refine ⟨_, rfl, _, rfl, _, rfl, _, _, rfl, rfl, (by show (0 : Int) < d; omega), _, _, rfl, ⟨d, c % d, ?_, ?_, rfl⟩, ?_⟩
        · rfl
        · rw [← hg, Nat.gcd_comm c d, Nat.gcd_rec d c, Nat.gcd_comm]
        · show ((c : Int) % (d : Int)).toNat < (d : Int).toNat
          have := Int.emod_lt_of_pos (c : Int) (show (0 : Int) < d by omega)
          have := Int.emod_nonneg (c : Int) (show (d : Int) ≠ 0 by omega)
          omega
    · intro σ H Q Q' m h
      obtain ⟨v, e, q⟩ := h
      obtain ⟨z, b, e2, q2⟩ := q
      exact ⟨v, e, z, b, e2, m _ _ q2⟩
end
/-! ### Number -/
def nf (q : Rat) : List (Str × V) := [("own_top", .int q.num), ("own_bottom", .int (q.den : Int))]
def Num (C : Addr) (H : Hp) (a : Addr) (q : Rat) : Prop := ∃ dx, H a = some (.ins C dx (nf q))
theorem Num.mono {C : Addr} {H H' : Hp} {a : Addr} {q : Rat} (h : Num C H a q) (s : Same H H') : Num C H' a q := by
  obtain ⟨dx, e⟩ := h
  exact ⟨dx, s _ _ e⟩
theorem nf_put (q : Rat) : putF "own_bottom" (.int (q.den : Int)) (putF "own_top" (.int q.num) []) = nf q := by
  show (if ("own_top" : Str) = "own_bottom" then [(("own_bottom" : Str), V.int (q.den : Int))] else (("own_top" : Str), V.int q.num) :: putF "own_bottom" (.int (q.den : Int)) []) = nf q
  rw [if_neg (by decide +kernel)]
  rfl
theorem nf_top (q : Rat) : (nf q).lookup ("own_top" : Str) = some (.int q.num) := by simp [nf, List.lookup]
theorem nf_bot (q : Rat) : (nf q).lookup ("own_bottom" : Str) = some (.int (q.den : Int)) := by
  have : (("own_bottom" : Str) == ("own_top" : Str)) = false := by decide +kernel
  simp [nf, List.lookup, this]
theorem nf_no (q : Rat) {m : Str} (h1 : (m == ("own_top" : Str)) = false) (h2 : (m == ("own_bottom" : Str)) = false) : (nf q).lookup m = none := by simp [nf, List.lookup, h1, h2]
/-- a new instance and its dict, then its fields -/
theorem same_made {C : Addr} {H : Hp} {x dx : Addr} {fs gs : List (Str × V)} (nx : H x = none) (ndx : H dx = none) : Same H (upd (upd (upd H dx (.own x)) x (.ins C dx fs)) x (.ins C dx gs)) := fun b o e => by
  rw [upd_upd, upd_ne (ne_of_none e nx), upd_ne (ne_of_none e ndx)]
  exact e
theorem same_new {H : Hp} {x : Addr} {o : HO} (nx : H x = none) : Same H (upd H x o) := fun b u e => by
  rw [upd_ne (ne_of_none e nx)]
  exact e
theorem abs_nat (t : Int) : (if t < 0 then -t else t) = (t.natAbs : Int) := by split <;> omega
theorem dint_ne {b c : Int} (h : b ≠ c) : decide (V.int b = V.int c) = false := decide_eq_false fun e => h (by injection e)
theorem dint_eq {b c : Int} (h : b = c) : decide (V.int b = V.int c) = true := decide_eq_true (by rw [h])
section
variable {P : Program} {w : World} {K : PySem.W.Frag} {mg : Str → Option Value} {base : Heap} {A : Ad}
def spNumI (C : Addr) : Sp := fun vs H Q _ => ∃ (p dx : Addr) (t b : Int), vs = [.ref p, .int t, .int b] ∧ b ≠ 0 ∧ b.natAbs < 2 ^ 9000 ∧ H p = some (.ins C dx []) ∧ Q .non (upd H p (.ins C dx (nf (Rat.divInt t b))))
theorem ok_Number_init (T : Txt K mg A) : FnOk P w K mg base CX0 2 A.f_Number_init A.d_Number_init ["self", "top", "bottom"] (spNumI A.c_Number) := by
  refine T.F_Number_init.ok sc_Number_init (fun vs H Q E h => ?_) (fun cdv B outer s H vs Q E hr h => ?_)
  · obtain ⟨p, dx, t, b, rfl, _⟩ := h
    rfl
  · obtain ⟨p, dx, t, b, rfl, hb, hbd, hp, k⟩ := h
    refine ⟨_, pss_cons (ps_if (PW.pt (pw_or (pt_not (pt_val (pe_call (ok_is_integer T) hr rfl T.g_is_integer T.F_is_integer.kp T.b_is_integer .nil pass0 (pa_cons (pv 1) pa_nil))))
        (pw_or (pt_not (pt_val (pe_call (ok_is_integer T) hr rfl T.g_is_integer T.F_is_integer.kp T.b_is_integer .nil pass0 (pa_cons (pv 2) pa_nil))))
        (pw_or1 (pt_cmpR op_eq (pv 2) pe_int (nomark _)))))) pss_never pss_nil)
      (pss_cons (ps_set (i := 3) sc_Number_init.nd rfl (Or.inl rfl) (pe_call (ok_shared_divisor T) hr rfl T.g_shared_divisor T.F_shared_divisor.kp T.b_shared_divisor .nil pass0
        (pa_cons (pe_callB call_abs (by rfl) T.z_abs (by decide +kernel) (pa_cons (pv 1) pa_nil)) (pa_cons (pe_callB call_abs (by rfl) T.z_abs (by decide +kernel) (pa_cons (pv 2) pa_nil)) pa_nil))))
      (pss_cons (ps_if (pt_cmpR op_lt (pv 2) pe_int (nomark _)) (pss_one (ps_set (i := 3) sc_Number_init.nd rfl (Or.inl rfl) (pe_un un_neg (pv 3)))) pss_nil)
      (pss_cons (ps_fld (pv 0) (pe_op op_fdivG (pv 1) (pv 3)) rfl)
      (pss_one (ps_fld (pv 0) (pe_op op_fdivG (pv 2) (pv 3)) rfl))))), ?_⟩
    refine ⟨_, rfl, t, rfl, true, rfl, ?_⟩
    refine iteF ?_
    refine ⟨_, rfl, b, rfl, true, rfl, ?_⟩
    refine iteF ?_
    refine ⟨_, rfl, rfl, _, rfl, ?_⟩
    rw [dint_ne hb]
    refine iteF ?_
    refine ⟨_, rfl, t, rfl, _, rfl, b, rfl, t.natAbs, b.natAbs, by rw [abs_nat, abs_nat]; rfl, ?_⟩
    have hg0 : 0 < Nat.gcd t.natAbs b.natAbs := gcd_ne hb rfl
    have hgl : Nat.gcd t.natAbs b.natAbs ≤ b.natAbs := gcd_le hb rfl
    have hn : ∀ s : Int, s = (if b < 0 then -((Nat.gcd t.natAbs b.natAbs : Nat) : Int) else ((Nat.gcd t.natAbs b.natAbs : Nat) : Int)) → CDivG t s ∧ CDivG b s ∧ t.fdiv s = (Rat.divInt t b).num ∧ b.fdiv s = ((Rat.divInt t b).den : Int) := fun s e => by
      have h1 : s ≠ 0 := by rw [e]; split <;> omega
      have h2 : s.natAbs = Nat.gcd t.natAbs b.natAbs := by rw [e]; split <;> omega
      have h3 : s.natAbs.log2 < 9000 := log2_lt (by decide) (by rw [h2]; exact Nat.lt_of_le_of_lt hgl hbd)
      exact ⟨⟨h1, h3⟩, ⟨h1, h3⟩, by rw [e]; exact make_num hb rfl, by rw [e]; exact make_den hb rfl⟩
    refine ⟨_, rfl, _, _, rfl, rfl, _, rfl, ?_⟩
    have fin : ∀ s : Int, s = (if b < 0 then -((Nat.gcd t.natAbs b.natAbs : Nat) : Int) else ((Nat.gcd t.natAbs b.natAbs : Nat) : Int)) →
        (tSeq (sFld K (tVar 0) (tOp (rI CDivG fun i j => .int (i.fdiv j)) (tVar 1) (tVar 3)) "own_top") (sFld K (tVar 0) (tOp (rI CDivG fun i j => .int (i.fdiv j)) (tVar 2) (tVar 3)) "own_bottom")) { nx := fun _ H' => Q .non H', rt := Q }
          [some (.ref p), some (.int t), some (.int b), some (.int s)] H := fun s e => by
      obtain ⟨c1, c2, e1, e2⟩ := hn s e
      refine ⟨_, rfl, _, rfl, _, _, rfl, rfl, c1, _, rfl, p, A.c_Number, dx, [], rfl, hp, T.cl_Number, T.n_Number_own_top, (by decide), ?_⟩
      refine ⟨_, rfl, _, rfl, _, _, rfl, rfl, c2, _, rfl, p, A.c_Number, dx, _, rfl, upd_same, T.cl_Number, T.n_Number_own_bottom, (by show 1 < 1000; decide), ?_⟩
      dsimp only
      rw [upd_upd, e1, e2, nf_put]
      exact k
    refine ite2 (fun hlt => ?_) (fun hlt => ?_)
    · refine ⟨_, rfl, _, rfl, ?_⟩
      exact fin _ (by rw [if_pos (of_decide_eq_true hlt)])
    · exact fin _ (by rw [if_neg fun z => hlt (decide_eq_true z)])
/-- Number(t, b), both written -/
theorem b_Number (T : Txt K mg A) : Binds K A.d_Number_init ["self", "top", "bottom"] [] := by
  obtain ⟨ds, r, b⟩ := T.F_Number_init.binds1 (ps := ["self", "top", "bottom"]) 3 1 (by simp) rfl (fun T' kV dc pm an cd ct us its hu hi => by
    match us, hu, its, hi with
    | [u1, u2, u3], _, [i1], _ => exact ⟨_, rfl, rfl⟩)
  cases r
  exact b
end
/-! ### Number's methods -/
/-- Number(t, b) gives a new number -/
theorem made_num {C : Addr} {H : Hp} {x dx : Addr} (q : Rat) (nx : H x = none) (ndx : H dx = none) :
    Same H (upd (upd (upd H dx (.own x)) x (.ins C dx [])) x (.ins C dx (nf q))) ∧ Num C (upd (upd (upd H dx (.own x)) x (.ins C dx [])) x (.ins C dx (nf q))) x q :=
  ⟨same_made nx ndx, dx, upd_same⟩
section
variable {P : Program} {w : World} {K : PySem.W.Frag} {mg : Str → Option Value} {base : Heap} {A : Ad}
theorem ok_Number_top (T : Txt K mg A) : FnOk P w K mg base CX0 1 A.f_Number_top A.d_Number_top ["self"] (getSp A.c_Number "own_top") := by
  refine T.F_Number_top.ok sc_Number_top (fun vs H Q E h => ?_) (fun cdv B outer s H vs Q E hr h => ?_)
  · obtain ⟨a, dx, fs, v, rfl, _⟩ := h
    rfl
  · obtain ⟨a, dx, fs, v, rfl, e, l, k⟩ := h
    exact ⟨_, pss_one (ps_ret (pe_fld (pv 0) rfl)), _, rfl, a, _, dx, fs, v, rfl, e, T.cl_Number, T.n_Number_own_top, l, k⟩
end
section
variable {P : Program} {w : World} {K : PySem.W.Frag} {mg : Str → Option Value} {base : Heap} {A : Ad}
theorem ok_Number_bottom (T : Txt K mg A) : FnOk P w K mg base CX0 1 A.f_Number_bottom A.d_Number_bottom ["self"] (getSp A.c_Number "own_bottom") := by
  refine T.F_Number_bottom.ok sc_Number_bottom (fun vs H Q E h => ?_) (fun cdv B outer s H vs Q E hr h => ?_)
  · obtain ⟨a, dx, fs, v, rfl, _⟩ := h
    rfl
  · obtain ⟨a, dx, fs, v, rfl, e, l, k⟩ := h
    exact ⟨_, pss_one (ps_ret (pe_fld (pv 0) rfl)), _, rfl, a, _, dx, fs, v, rfl, e, T.cl_Number, T.n_Number_own_bottom, l, k⟩
end
section
variable {P : Program} {w : World} {K : PySem.W.Frag} {mg : Str → Option Value} {base : Heap} {A : Ad}
/-- == of two numbers -/
def spNumEq (C : Addr) : Sp := fun vs H Q _ => ∃ (a b : Addr) (p q : Rat), vs = [.ref a, .ref b] ∧ Num C H a p ∧ Num C H b q ∧ Q (.bl (decide (p = q))) H
theorem rat_eq_dec (p q : Rat) : decide (p = q) = (decide (V.int p.num = V.int q.num) && decide (V.int (p.den : Int) = V.int (q.den : Int))) := by
  by_cases h : p = q
  · subst h
    simp
  · rw [decide_eq_false h]
    by_cases h1 : p.num = q.num
    · have h2 : ¬ ((p.den : Int) = (q.den : Int)) := fun e => h (Rat.ext h1 (by omega))
      rw [dint_ne h2, Bool.and_false]
    · rw [dint_ne h1, Bool.false_and]
theorem ok_Number_eq (T : Txt K mg A) : FnOk P w K mg base CX0 1 A.f_Number_eq A.d_Number_eq ["self", "other"] (spNumEq A.c_Number) := by
  refine T.F_Number_eq.ok sc_Number_eq (fun vs H Q E h => ?_) (fun cdv B outer s H vs Q E hr h => ?_)
  · obtain ⟨a, b, p, q, rfl, _⟩ := h
    rfl
  · obtain ⟨a, b, p, q, rfl, ⟨dx, ha⟩, ⟨dy, hb⟩, k⟩ := h
    refine ⟨_, pss_one (ps_ret (pe_and (pe_callB call_isi (by rfl) T.z_isinstance (by decide +kernel) (pa_cons (pv 1) (pa_cons (pe_glob (v := .ref A.c_Number) (by rfl) T.g_Number rfl) pa_nil)))
      (pe_and (pe_cmpR op_eq (pe_fld (pv 0) rfl) (pe_fld (pv 1) rfl) (nomark _)) (pe_one (pe_cmpR op_eq (pe_fld (pv 0) rfl) (pe_fld (pv 1) rfl) (nomark _)))))), ?_⟩
    refine ⟨_, rfl, _, _, _, _, true, rfl, .own _, .base (.ins hb T.cl_Number T.ca_Number T.cn T.ct T.cm_Number), T.kit_NumNum, true, rfl, ?_⟩
    refine iteT ?_
    refine ⟨_, rfl, a, _, dx, _, _, rfl, ha, T.cl_Number, T.n_Number_own_top, nf_top p, _, rfl, b, _, dy, _, _, rfl, hb, T.cl_Number, T.n_Number_own_top, nf_top q, rfl, _, rfl, ?_⟩
    rw [rat_eq_dec] at k
    refine ite2 (fun h1 => ?_) (fun h1 => ?_)
    · rw [h1, Bool.true_and] at k
      exact ⟨_, rfl, a, _, dx, _, _, rfl, ha, T.cl_Number, T.n_Number_own_bottom, nf_bot p, _, rfl, b, _, dy, _, _, rfl, hb, T.cl_Number, T.n_Number_own_bottom, nf_bot q, rfl, k⟩
    · have h2 := Bool.eq_false_iff.mpr h1
      rw [h2, Bool.false_and] at k
      exact k
end
section
variable {P : Program} {w : World} {K : PySem.W.Frag} {mg : Str → Option Value} {base : Heap} {A : Ad}
/-- an operation of two numbers -/
def spNum2 (C : Addr) (f : Rat → Rat → Rat) : Sp := fun vs H Q _ => ∃ (a b : Addr) (p q : Rat), vs = [.ref a, .ref b] ∧ Num C H a p ∧ Num C H b q ∧ Bd 4000 p ∧ Bd 4000 q ∧
  ∀ x H', Same H H' → H x = none → Num C H' x (f p q) → Q (.ref x) H'
theorem bdw {m n : Nat} {i j : Int} (ha : i.natAbs < 2 ^ m) (hb : j.natAbs < 2 ^ n) (h0 : 0 < m := by decide) (h1 : 0 < n := by decide) (h : m + n ≤ 1000000 := by decide) : CMulW i j := wide_mul ha hb h0 h1 h
end
section
variable {P : Program} {w : World} {K : PySem.W.Frag} {mg : Str → Option Value} {base : Heap} {A : Ad}
theorem ok_Number_add (T : Txt K mg A) : FnOk P w K mg base CX0 4 A.f_Number_add A.d_Number_add ["self", "other"] (spNum2 A.c_Number (· + ·)) := by
  refine T.F_Number_add.ok sc_Number_add (fun vs H Q E h => ?_) (fun cdv B outer s H vs Q E hr h => ?_)
  · obtain ⟨a, b, p, q, rfl, _⟩ := h
    rfl
  · obtain ⟨a, b, p, q, rfl, ⟨dx, ha⟩, ⟨dy, hb⟩, bp, bq, k⟩ := h
    refine ⟨_, pss_cons (ps_set (i := 2) sc_Number_add.nd rfl (Or.inl rfl) (pe_op op_add (pe_op op_mulW (pe_fld (pv 0) rfl) (pe_fld (pv 1) rfl)) (pe_op op_mulW (pe_fld (pv 1) rfl) (pe_fld (pv 0) rfl))))
      (pss_one (ps_ret (pe_make T.M_Number (ok_Number_init T) hr rfl T.g_Number (b_Number T) .nil pass0 (pa_cons (pv 2) (pa_cons (pe_op op_mulW (pe_fld (pv 0) rfl) (pe_fld (pv 1) rfl)) pa_nil))))), ?_⟩
    refine ⟨_, rfl, a, _, dx, _, _, rfl, ha, T.cl_Number, T.n_Number_own_top, nf_top p, _, rfl, b, _, dy, _, _, rfl, hb, T.cl_Number, T.n_Number_own_bottom, nf_bot q, _, _, rfl, rfl, bdw bp.1 bq.den', ?_⟩
    refine ⟨_, rfl, b, _, dy, _, _, rfl, hb, T.cl_Number, T.n_Number_own_top, nf_top q, _, rfl, a, _, dx, _, _, rfl, ha, T.cl_Number, T.n_Number_own_bottom, nf_bot p, _, _, rfl, rfl, bdw bq.1 bp.den', _, _, rfl, rfl, ?_⟩
    refine ⟨_, rfl, _, rfl, a, _, dx, _, _, rfl, ha, T.cl_Number, T.n_Number_own_bottom, nf_bot p, _, rfl, b, _, dy, _, _, rfl, hb, T.cl_Number, T.n_Number_own_bottom, nf_bot q, _, _, rfl, rfl, bdw bp.den' bq.den', ?_⟩
    intro x dz nx ndz nex
    refine ⟨x, dz, _, _, rfl, Int.mul_ne_zero (den_ne p) (den_ne q), up_lt (imul_lt bp.den' bq.den') (by decide), upd_same, rfl, ?_⟩
    have e := made_num (C := A.c_Number) (p + q) nx ndz
    rw [← add_eq] at e
    exact k _ _ e.1 nx (by show Num _ _ _ (p + q); rw [← add_eq]; exact e.2)
end
section
variable {P : Program} {w : World} {K : PySem.W.Frag} {mg : Str → Option Value} {base : Heap} {A : Ad}
theorem ok_Number_sub (T : Txt K mg A) : FnOk P w K mg base CX0 4 A.f_Number_sub A.d_Number_sub ["self", "other"] (spNum2 A.c_Number (· - ·)) := by
  refine T.F_Number_sub.ok sc_Number_sub (fun vs H Q E h => ?_) (fun cdv B outer s H vs Q E hr h => ?_)
  · obtain ⟨a, b, p, q, rfl, _⟩ := h
    rfl
  · obtain ⟨a, b, p, q, rfl, ⟨dx, ha⟩, ⟨dy, hb⟩, bp, bq, k⟩ := h
    refine ⟨_, pss_cons (ps_set (i := 2) sc_Number_sub.nd rfl (Or.inl rfl) (pe_op op_sub (pe_op op_mulW (pe_fld (pv 0) rfl) (pe_fld (pv 1) rfl)) (pe_op op_mulW (pe_fld (pv 1) rfl) (pe_fld (pv 0) rfl))))
      (pss_one (ps_ret (pe_make T.M_Number (ok_Number_init T) hr rfl T.g_Number (b_Number T) .nil pass0 (pa_cons (pv 2) (pa_cons (pe_op op_mulW (pe_fld (pv 0) rfl) (pe_fld (pv 1) rfl)) pa_nil))))), ?_⟩
    refine ⟨_, rfl, a, _, dx, _, _, rfl, ha, T.cl_Number, T.n_Number_own_top, nf_top p, _, rfl, b, _, dy, _, _, rfl, hb, T.cl_Number, T.n_Number_own_bottom, nf_bot q, _, _, rfl, rfl, bdw bp.1 bq.den', ?_⟩
    refine ⟨_, rfl, b, _, dy, _, _, rfl, hb, T.cl_Number, T.n_Number_own_top, nf_top q, _, rfl, a, _, dx, _, _, rfl, ha, T.cl_Number, T.n_Number_own_bottom, nf_bot p, _, _, rfl, rfl, bdw bq.1 bp.den', _, _, rfl, rfl, ?_⟩
    refine ⟨_, rfl, _, rfl, a, _, dx, _, _, rfl, ha, T.cl_Number, T.n_Number_own_bottom, nf_bot p, _, rfl, b, _, dy, _, _, rfl, hb, T.cl_Number, T.n_Number_own_bottom, nf_bot q, _, _, rfl, rfl, bdw bp.den' bq.den', ?_⟩
    intro x dz nx ndz nex
    refine ⟨x, dz, _, _, rfl, Int.mul_ne_zero (den_ne p) (den_ne q), up_lt (imul_lt bp.den' bq.den') (by decide), upd_same, rfl, ?_⟩
    have e := made_num (C := A.c_Number) (p - q) nx ndz
    rw [← sub_eq] at e
    exact k _ _ e.1 nx (by show Num _ _ _ (p - q); rw [← sub_eq]; exact e.2)
end
section
variable {P : Program} {w : World} {K : PySem.W.Frag} {mg : Str → Option Value} {base : Heap} {A : Ad}
theorem ok_Number_mul (T : Txt K mg A) : FnOk P w K mg base CX0 4 A.f_Number_mul A.d_Number_mul ["self", "other"] (spNum2 A.c_Number (· * ·)) := by
  refine T.F_Number_mul.ok sc_Number_mul (fun vs H Q E h => ?_) (fun cdv B outer s H vs Q E hr h => ?_)
  · obtain ⟨a, b, p, q, rfl, _⟩ := h
    rfl
  · obtain ⟨a, b, p, q, rfl, ⟨dx, ha⟩, ⟨dy, hb⟩, bp, bq, k⟩ := h
    refine ⟨_, pss_one (ps_ret (pe_make T.M_Number (ok_Number_init T) hr rfl T.g_Number (b_Number T) .nil pass0 (pa_cons (pe_op op_mulW (pe_fld (pv 0) rfl) (pe_fld (pv 1) rfl)) (pa_cons (pe_op op_mulW (pe_fld (pv 0) rfl) (pe_fld (pv 1) rfl)) pa_nil)))), ?_⟩
    refine ⟨_, rfl, a, _, dx, _, _, rfl, ha, T.cl_Number, T.n_Number_own_top, nf_top p, _, rfl, b, _, dy, _, _, rfl, hb, T.cl_Number, T.n_Number_own_top, nf_top q, _, _, rfl, rfl, bdw bp.1 bq.1, ?_⟩
    refine ⟨_, rfl, a, _, dx, _, _, rfl, ha, T.cl_Number, T.n_Number_own_bottom, nf_bot p, _, rfl, b, _, dy, _, _, rfl, hb, T.cl_Number, T.n_Number_own_bottom, nf_bot q, _, _, rfl, rfl, bdw bp.den' bq.den', ?_⟩
    intro x dz nx ndz nex
    refine ⟨x, dz, _, _, rfl, Int.mul_ne_zero (den_ne p) (den_ne q), up_lt (imul_lt bp.den' bq.den') (by decide), upd_same, rfl, ?_⟩
    have e := made_num (C := A.c_Number) (p * q) nx ndz
    rw [← mul_eq] at e
    exact k _ _ e.1 nx (by show Num _ _ _ (p * q); rw [← mul_eq]; exact e.2)
end
/-! ### Line -/
def lf (p q : Addr) : List (Str × V) := [("own_base", .ref p), ("own_slope", .ref q)]
theorem lf_put (p q : Addr) : putF "own_slope" (.ref q) (putF "own_base" (.ref p) []) = lf p q := by
  show (if ("own_base" : Str) = "own_slope" then [(("own_slope" : Str), V.ref q)] else (("own_base" : Str), V.ref p) :: putF "own_slope" (.ref q) []) = lf p q
  rw [if_neg (by decide +kernel)]
  rfl
theorem lf_base (p q : Addr) : (lf p q).lookup ("own_base" : Str) = some (.ref p) := by simp [lf, List.lookup]
theorem lf_slope (p q : Addr) : (lf p q).lookup ("own_slope" : Str) = some (.ref q) := by
  have : (("own_slope" : Str) == ("own_base" : Str)) = false := by decide +kernel
  simp [lf, List.lookup, this]
theorem lf_no (p q : Addr) {m : Str} (h1 : (m == ("own_base" : Str)) = false) (h2 : (m == ("own_slope" : Str)) = false) : (lf p q).lookup m = none := by simp [lf, List.lookup, h1, h2]
/-- a line at a: the numbers b and s at p and q -/
structure Lin (A : Ad) (H : Hp) (a : Addr) (b s : Rat) : Prop where
  ex : ∃ dx p q, H a = some (.ins A.c_Line dx (lf p q)) ∧ Num A.c_Number H p b ∧ Num A.c_Number H q s
theorem Lin.mono {A : Ad} {H H' : Hp} {a : Addr} {b t : Rat} (h : Lin A H a b t) (s : Same H H') : Lin A H' a b t := by
  obtain ⟨dx, p, q, e, h1, h2⟩ := h.ex
  exact ⟨dx, p, q, s _ _ e, h1.mono s, h2.mono s⟩
section
variable {P : Program} {w : World} {K : PySem.W.Frag} {mg : Str → Option Value} {base : Heap} {A : Ad}
def spLineI (C : Addr) : Sp := fun vs H Q _ => ∃ (o dx p q : Addr), vs = [.ref o, .ref p, .ref q] ∧ H o = some (.ins C dx []) ∧ Q .non (upd H o (.ins C dx (lf p q)))
theorem ok_Line_init (T : Txt K mg A) : FnOk P w K mg base CX0 1 A.f_Line_init A.d_Line_init ["self", "base", "slope"] (spLineI A.c_Line) := by
  refine T.F_Line_init.ok sc_Line_init (fun vs H Q E h => ?_) (fun cdv B outer s H vs Q E hr h => ?_)
  · obtain ⟨o, dx, p, q, rfl, _⟩ := h
    rfl
  · obtain ⟨o, dx, p, q, rfl, hp, k⟩ := h
    refine ⟨_, pss_cons (ps_fld (pv 0) (pv 1) rfl) (pss_one (ps_fld (pv 0) (pv 2) rfl)), ?_⟩
    refine ⟨_, rfl, _, rfl, o, A.c_Line, dx, [], rfl, hp, T.cl_Line, T.n_Line_own_base, (by decide), ?_⟩
    refine ⟨_, rfl, _, rfl, o, A.c_Line, dx, _, rfl, upd_same, T.cl_Line, T.n_Line_own_slope, (by show 1 < 1000; decide), ?_⟩
    dsimp only
    rw [upd_upd, lf_put]
    exact k
/-- Line(p, q) gives a new line -/
theorem made_lin {H : Hp} {x dx p q : Addr} {b t : Rat} (hp : Num A.c_Number H p b) (hq : Num A.c_Number H q t) (nx : H x = none) (ndx : H dx = none) :
    Same H (upd (upd (upd H dx (.own x)) x (.ins A.c_Line dx [])) x (.ins A.c_Line dx (lf p q))) ∧ Lin A (upd (upd (upd H dx (.own x)) x (.ins A.c_Line dx [])) x (.ins A.c_Line dx (lf p q))) x b t :=
  ⟨same_made nx ndx, ⟨dx, p, q, upd_same, hp.mono (same_made nx ndx), hq.mono (same_made nx ndx)⟩⟩
end
section
variable {P : Program} {w : World} {K : PySem.W.Frag} {mg : Str → Option Value} {base : Heap} {A : Ad}
/-- line(s) -/
def spLineCall (A : Ad) : Sp := fun vs H Q _ => ∃ (a x : Addr) (b t v : Rat), vs = [.ref a, .ref x] ∧ Lin A H a b t ∧ Num A.c_Number H x v ∧ Bd 1000 b ∧ Bd 1000 t ∧ Bd 1000 v ∧
  ∀ y H', Same H H' → Num A.c_Number H' y (b + t * v) → Q (.ref y) H'
theorem ok_Line_call (T : Txt K mg A) : FnOk P w K mg base CX0 5 A.f_Line_call A.d_Line_call ["self", "s"] (spLineCall A) := by
  refine T.F_Line_call.ok sc_Line_call (fun vs H Q E h => ?_) (fun cdv B outer s H vs Q E hr h => ?_)
  · obtain ⟨a, x, b, t, v, rfl, _⟩ := h
    rfl
  · obtain ⟨a, x, b, t, v, rfl, ⟨dx, p, q, ha, ⟨d1, hp⟩, ⟨d2, hq⟩⟩, ⟨d3, hx⟩, bb, bt, bv, k⟩ := h
    refine ⟨_, pss_one (ps_ret (pe_op (op_own2 (ok_Number_add T) T.b_Number_add T.m_Number_add.at_ T.m_Number_add.fn T.sf_Number hr pass0) (pe_fld (pv 0) rfl)
      (pe_op (op_own2 (ok_Number_mul T) T.b_Number_mul T.m_Number_mul.at_ T.m_Number_mul.fn T.sf_Number hr pass0) (pe_fld (pv 0) rfl) (pv 1)))), ?_⟩
    refine ⟨_, rfl, a, _, dx, _, _, rfl, ha, T.cl_Line, T.n_Line_own_base, lf_base p q, _, rfl, a, _, dx, _, _, rfl, ha, T.cl_Line, T.n_Line_own_slope, lf_slope p q, _, rfl, ?_⟩
    refine ⟨q, _, _, x, _, _, rfl, rfl, hq, hx, q, x, t, v, rfl, ⟨_, hq⟩, ⟨_, hx⟩, bt.mono (by decide), bv.mono (by decide), fun y H1 s1 ny hy => ?_⟩
    obtain ⟨d4, hy'⟩ := id hy
    refine ⟨p, _, _, y, _, _, rfl, rfl, s1 _ _ hp, hy', p, y, b, t * v, rfl, ⟨_, s1 _ _ hp⟩, hy, bb.mono (by decide), (bt.mul bv).mono (by decide), fun z H2 s2 nz hz => ?_⟩
    exact k z H2 (s1.trans s2) hz
end
/-! ### draws -/
/-- a pot at p, of which n numbers at most were drawn behind its own digits -/
def Pot (H : Hp) (p : Addr) (n : Nat) : Prop := ∃ own mix c : Int, H p = some (.lst [.int own, .int mix, .int c]) ∧ 0 ≤ own ∧ 0 ≤ mix ∧ mix < 2305843009213693921 ∧ 0 ≤ c ∧ c ≤ n
theorem Pot.mono {H : Hp} {p : Addr} {m n : Nat} (h : Pot H p m) (l : m ≤ n) : Pot H p n := by
  obtain ⟨own, mix, c, e, h1, h2, h3, h4, h5⟩ := h
  exact ⟨own, mix, c, e, h1, h2, h3, h4, by omega⟩
theorem Pot.same {H H' : Hp} {p : Addr} {n : Nat} (h : Pot H p n) (s : Same H H') : Pot H' p n := by
  obtain ⟨own, mix, c, e, h⟩ := h
  exact ⟨own, mix, c, s _ _ e, h⟩
/-- all but what stands at p is as it was -/
def SameBut (p : Addr) (H H' : Hp) : Prop := ∀ b o, H b = some o → b ≠ p → H' b = some o
theorem SameBut.refl (p : Addr) (H : Hp) : SameBut p H H := fun _ _ e _ => e
theorem SameBut.trans {p : Addr} {H H1 H2 : Hp} (a : SameBut p H H1) (b : SameBut p H1 H2) : SameBut p H H2 := fun c o e n => b c o (a c o e n) n
theorem SameBut.same {p : Addr} {H H1 H2 : Hp} (a : SameBut p H H1) (b : Same H1 H2) : SameBut p H H2 := fun c o e n => b c o (a c o e n)
theorem Same.but {H H1 : Hp} (p : Addr) (b : Same H H1) : SameBut p H H1 := fun c o e _ => b c o e
theorem but_upd {p : Addr} {H : Hp} {o : HO} : SameBut p H (upd H p o) := fun c u e n => by rw [upd_ne n]; exact e
theorem Num.but {C p : Addr} {H H' : Hp} {a : Addr} {q : Rat} (h : Num C H a q) (s : SameBut p H H') (hp : ∃ xs, H p = some (.lst xs)) : Num C H' a q := by
  obtain ⟨dx, e⟩ := h
  obtain ⟨xs, ep⟩ := hp
  exact ⟨dx, s _ _ e (ne_of e ep (by intro z; cases z))⟩
theorem tup_but {p a : Addr} {H H' : Hp} {ys : List V} (h : H a = some (.tup ys)) (s : SameBut p H H') (hp : ∃ xs, H p = some (.lst xs)) : H' a = some (.tup ys) := by
  obtain ⟨xs, ep⟩ := hp
  exact s _ _ h (ne_of h ep (by intro z; cases z))
theorem Pot.lst {H : Hp} {p : Addr} {n : Nat} (h : Pot H p n) : ∃ xs, H p = some (.lst xs) := by
  obtain ⟨own, mix, c, e, _⟩ := h
  exact ⟨_, e⟩
theorem prime_at (c : Int) (h : 0 ≤ c) : ∃ q : Int, atI [V.int 2147483647, V.int 2147483629, V.int 2147483587, V.int 2147483579, V.int 2147483563] (c % 5) = some (.int q) ∧ 0 < q ∧ q < 2 ^ 32 := by
  have h1 := Int.emod_nonneg c (show (5 : Int) ≠ 0 by decide)
  have h2 := Int.emod_lt_of_pos c (show (0 : Int) < 5 by decide)
  have h3 : c % 5 = 0 ∨ c % 5 = 1 ∨ c % 5 = 2 ∨ c % 5 = 3 ∨ c % 5 = 4 := by omega
  rcases h3 with e | e | e | e | e <;> rw [e]
  · exact ⟨_, rfl, by decide, by decide⟩
  · exact ⟨_, rfl, by decide, by decide⟩
  · exact ⟨_, rfl, by decide, by decide⟩
  · exact ⟨_, rfl, by decide, by decide⟩
  · exact ⟨_, rfl, by decide, by decide⟩
theorem at_mem {α : Type} {xs : List α} {i : Int} (h0 : 0 ≤ i) (h1 : i < xs.length) : ∃ v, atI xs i = some v ∧ v ∈ xs := by
  have hl : i.toNat < xs.length := by omega
  have e : ((i.toNat : Nat) : Int) = i := by omega
  have h := atI_nat (xs := xs) (j := i.toNat) (v := xs[i.toNat]) (by simp [hl])
  rw [e] at h
  exact ⟨_, h, List.getElem_mem hl⟩
theorem bit_lt (c : Bool) : -(2 ^ 64) < (if c = true then (1 : Int) else 0) ∧ (if c = true then (1 : Int) else 0) < 2 ^ 64 := by cases c <;> decide
theorem bit_nn (c : Bool) : 0 ≤ (if c = true then (1 : Int) else 0) := by cases c <;> decide
/-- the answer is an int, whichever way -/
theorem with_int {Q : VK} {te : TE} {σ : L2.St} {H : Hp} (h : (∀ i : Int, Q (.int i) H) → te σ H Q) (hq : ∀ i : Int, Q (.int i) H) : te σ H Q := h hq
section
variable {P : Program} {w : World} {K : PySem.W.Frag} {mg : Str → Option Value} {base : Heap} {A : Ad}
/-- _law_pot(script, k) -/
def spPot (K : PySem.W.Frag) : Sp := fun vs H Q _ => ∃ (a : Addr) (ns : List Int) (k : Int), vs = [.ref a, .int k] ∧ SqL K H a (ns.map V.int) ∧ 0 ≤ k ∧ k ≤ 100 ∧ ∀ p H', Same H H' → H p = none → Pot H' p 0 → Q (.ref p) H'
theorem ok_law_pot (T : Txt K mg A) : FnOk P w K mg base CX0 1 A.f_law_pot A.d_law_pot ["script", "k"] (spPot K) := by
  refine T.F_law_pot.ok sc_law_pot (fun vs H Q E h => ?_) (fun cdv B outer s H vs Q E hr h => ?_)
  · obtain ⟨a, ns, k, rfl, _⟩ := h
    rfl
  · obtain ⟨a, ns, k, rfl, hS, k0, k1, kq⟩ := h
    refine ⟨_, pss_cons (ps_set (i := 2) sc_law_pot.nd rfl (Or.inl rfl) (pe_ifExp (pt_cmpR op_lt (pv 1) (pe_callB call_len_seq (by rfl) T.z_len (by decide +kernel) (pa_cons (pv 0) pa_nil)) (nomark _))
        (pe_callTy call_int1 (by rfl) T.z_int (by decide +kernel) (pa_cons (pe_ix ix_list (pv 0) (pv 1) (fun _ _ => rfl)) pa_nil)) (pe_op op_add (pe_op op_mul pe_int (pv 1)) pe_int)))
      (pss_cons (ps_set (i := 3) sc_law_pot.nd rfl (Or.inl rfl) (pe_op op_mul (pe_op op_mod (pe_callTy call_int1 (by rfl) T.z_int (by decide +kernel) (pa_cons (pe_callB call_abs (by rfl) T.z_abs (by decide +kernel) (pa_cons (pv 2) pa_nil)) pa_nil))
          (pe_op op_powW (pe_op op_powW pe_int pe_int) pe_int)) (pe_callTy call_int1 (by rfl) T.z_int (by decide +kernel) (pa_cons (pe_cmpR op_ge (pe_callB call_abs (by rfl) T.z_abs (by decide +kernel) (pa_cons (pv 2) pa_nil)) (pe_op op_powW pe_int pe_int) (nomark _)) pa_nil))))
      (pss_one (ps_ret (pe_lst (pa_cons (pv 3) (pa_cons (pe_op op_mod (pe_callTy call_int1 (by rfl) T.z_int (by decide +kernel) (pa_cons (pe_op op_add (pe_op op_add (pe_op op_mul (pe_op op_mod (pe_callTy call_int1 (by rfl) T.z_int (by decide +kernel) (pa_cons (pv 2) pa_nil)) pe_int) pe_int)
          (pe_op op_mul (pe_op op_mul pe_int (pv 1)) (pv 1))) pe_int) pa_nil)) pe_int) (pa_cons pe_int pa_nil))))))), ?_⟩
    refine with_int (fun rest => ?_) (fun cell => ?_)
    · refine ⟨_, rfl, _, rfl, a, _, rfl, Or.inl hS, _, _, rfl, rfl, _, rfl, ?_⟩
      refine ite2 (fun e => ?_) (fun e => ?_)
      · have hk := of_decide_eq_true e
        have hk' : k < (ns.map V.int).length := hk
        obtain ⟨v, hv, hm⟩ := at_mem (xs := ns.map V.int) k0 hk'
        obtain ⟨n, _, rfl⟩ := List.mem_map.mp hm
        exact ⟨_, rfl, _, rfl, a, _, _, _, rfl, rfl, hS, hv, Or.inl ⟨n, rfl, rest n⟩⟩
      · exact ⟨_, rfl, _, _, rfl, rfl, Or.inl (by decide), _, _, rfl, rfl, rest _⟩
    · refine ⟨_, rfl, _, rfl, Or.inl ⟨_, rfl, _, _, rfl, rfl, ⟨by decide, by decide⟩, _, _, rfl, rfl, ⟨by decide, by decide +kernel⟩, _, _, rfl, rfl, Int.pow_pos (Int.pow_pos (by decide)), ?_⟩⟩
      refine ⟨_, rfl, _, rfl, _, _, rfl, rfl, ⟨by decide, by decide⟩, _, _, rfl, rfl, Or.inr ⟨_, rfl, _, _, rfl, rfl, Or.inr (bit_lt _), ?_⟩⟩
      refine ⟨_, rfl, _, rfl, Or.inl ⟨_, rfl, _, _, rfl, rfl, (by show (0 : Int) < 2305843009213693951; decide), _, _, rfl, rfl, Or.inr (by decide), _, rfl, _, _, rfl, rfl, Or.inl (by decide), _, rfl, _, _, rfl, rfl, Or.inr ⟨by omega, by omega⟩, _, _, rfl, rfl, _, _, rfl, rfl, Or.inl ⟨_, rfl, _, _, rfl, rfl, (by show (0 : Int) < 2305843009213693921; decide), ?_⟩⟩⟩
      refine ⟨by show 3 ≤ sizeLine; decide, fun p hp => ?_⟩
      refine kq p _ (same_new hp) hp ⟨_, _, _, upd_same, ?_, Int.emod_nonneg _ (by decide), Int.emod_lt_of_pos _ (by decide), Int.le_refl _, by decide⟩
      exact Int.mul_nonneg (Int.emod_nonneg _ (Int.ne_of_gt (Int.pow_pos (Int.pow_pos (by decide))))) (bit_nn _)
end
section
variable {P : Program} {w : World} {K : PySem.W.Frag} {mg : Str → Option Value} {base : Heap} {A : Ad}
/-- _law_take(pot, upto): some number from 0 to upto - 1 -/
def spTake : Sp := fun vs H Q _ => ∃ (p : Addr) (u : Int) (n : Nat), vs = [.ref p, .int u] ∧ 0 < u ∧ u.natAbs < 2 ^ 9000 ∧ Pot H p n ∧ n ≤ 100000 ∧ ∀ r H', 0 ≤ r → r < u → Pot H' p (n + 1) → SameBut p H H' → Q (.int r) H'
theorem ok_law_take (T : Txt K mg A) : FnOk P w K mg base CX0 1 A.f_law_take A.d_law_take ["pot", "upto"] spTake := by
  refine T.F_law_take.ok sc_law_take (fun vs H Q E h => ?_) (fun cdv B outer s H vs Q E hr h => ?_)
  · obtain ⟨p, u, n, rfl, _⟩ := h
    rfl
  · obtain ⟨p, u, n, rfl, u0, u1, ⟨own, mix, c, hp, o0, m0, m1, c0, c1⟩, hn, k⟩ := h
    refine ⟨_, pss_cons (ps_if (pt_cmpR op_gt (pe_ix ix_list (pv 0) pe_int (fun _ _ => rfl)) pe_int (nomark _))
        (pss_cons (ps_set (i := 2) sc_law_take.nd rfl (Or.inl rfl) (pe_op op_mod (pe_callTy call_int1 (by rfl) T.z_int (by decide +kernel) (pa_cons (pe_ix ix_list (pv 0) pe_int (fun _ _ => rfl)) pa_nil)) (pv 1)))
        (pss_cons (ps_asg (pe_op op_fdivG (pe_ix ix_list (pv 0) pe_int (fun _ _ => rfl)) (pv 1)) (pg_sub (pv 0) pe_int set_list))
        (pss_one (ps_ret (pv 2))))) pss_nil)
      (pss_cons (ps_asg (pe_op op_add (pe_ix ix_list (pv 0) pe_int (fun _ _ => rfl)) pe_int) (pg_sub (pv 0) pe_int set_list))
      (pss_cons (ps_set (i := 3) sc_law_take.nd rfl (Or.inl rfl) (pe_ix ix_list (pe_lst (pa_cons pe_int (pa_cons pe_int (pa_cons pe_int (pa_cons pe_int (pa_cons pe_int pa_nil))))))
          (pe_op op_mod (pe_callTy call_int1 (by rfl) T.z_int (by decide +kernel) (pa_cons (pe_ix ix_list (pv 0) pe_int (fun _ _ => rfl)) pa_nil)) pe_int) (fun _ _ => rfl)))
      (pss_cons (ps_set (i := 4) sc_law_take.nd rfl (Or.inl rfl) (pe_op op_mod (pe_callTy call_int1 (by rfl) T.z_int (by decide +kernel) (pa_cons (pe_op op_pow (pe_op op_add (pe_op op_add (pe_ix ix_list (pv 0) pe_int (fun _ _ => rfl))
          (pe_op op_mul (pe_op op_mul pe_int (pe_ix ix_list (pv 0) pe_int (fun _ _ => rfl))) (pe_ix ix_list (pv 0) pe_int (fun _ _ => rfl)))) pe_int) pe_int) pa_nil)) (pv 3)))
      (pss_one (ps_ret (pe_op op_mod (pe_callTy call_int1 (by rfl) T.z_int (by decide +kernel) (pa_cons (pe_op op_fdiv (pe_op op_mul (pv 4) (pe_op op_add (pe_op op_mod (pe_callTy call_int1 (by rfl) T.z_int (by decide +kernel) (pa_cons (pv 4) pa_nil)) pe_int)
          (pe_op op_mul pe_int (pe_ix ix_list (pv 0) pe_int (fun _ _ => rfl))))) pe_int) pa_nil)) (pv 1))))))), ?_⟩
    refine ⟨_, rfl, p, _, _, _, rfl, rfl, SqL.of hp, rfl, _, _, rfl, rfl, _, rfl, ?_⟩
    refine ite2 (fun e => ?_) (fun e => ?_)
    · have ho : 0 < own := of_decide_eq_true e
      refine ⟨_, rfl, p, _, _, _, rfl, rfl, SqL.of hp, rfl, Or.inl ⟨_, rfl, _, rfl, _, _, rfl, rfl, u0, ?_⟩⟩
      refine ⟨_, rfl, p, _, _, _, rfl, rfl, SqL.of hp, rfl, _, rfl, _, _, rfl, rfl, ⟨by omega, log2_lt (by decide) u1⟩, _, rfl, ?_⟩
      refine ⟨p, _, _, 0, rfl, rfl, hp, rfl, _, rfl, ?_⟩
      refine k _ _ (Int.emod_nonneg _ (by omega)) (Int.emod_lt_of_pos _ u0) ⟨_, _, _, upd_same, ?_, m0, m1, c0, by omega⟩ but_upd
      rw [Int.fdiv_eq_ediv_of_nonneg _ (by omega)]
      exact Int.ediv_nonneg o0 (by omega)
    · refine ⟨_, rfl, p, _, _, _, rfl, rfl, SqL.of hp, rfl, _, _, rfl, rfl, _, rfl, p, _, _, 2, rfl, rfl, hp, rfl, ?_⟩
      refine ⟨by show 5 ≤ sizeLine; decide, fun l hl => ?_⟩
      have npl : p ≠ l := ne_of_none upd_same hl
      have hp1 : ∀ {o : HO}, (upd (upd H p (.lst [.int own, .int mix, .int (c + 1)])) l o) p = some (.lst [.int own, .int mix, .int (c + 1)]) := by
        intro o
        rw [upd_ne npl]
        exact upd_same
      obtain ⟨pr, e1, e2, e3⟩ := prime_at (c + 1) (by omega)
      refine ⟨_, rfl, p, _, _, _, rfl, rfl, SqL.of hp1, rfl, Or.inl ⟨_, rfl, _, _, rfl, rfl, (by show (0 : Int) < 5; decide), l, _, _, _, rfl, rfl, SqL.of upd_same, e1, ?_⟩⟩
      have hc : (c + 1) * (c + 1) ≤ 100001 * 100001 := Int.mul_le_mul (by omega) (by omega) (by omega) (by decide)
      have hc' : 0 ≤ (c + 1) * (c + 1) := Int.mul_nonneg (by omega) (by omega)
      have hcc : 99961 * (c + 1) * (c + 1) = 99961 * ((c + 1) * (c + 1)) := Int.mul_assoc _ _ _
      refine ⟨_, rfl, p, _, _, _, rfl, rfl, SqL.of hp1, rfl, _, rfl, p, _, _, _, rfl, rfl, SqL.of hp1, rfl, _, _, rfl, rfl, Or.inl (by decide), _, rfl, p, _, _, _, rfl, rfl, SqL.of hp1, rfl, _, _, rfl, rfl, Or.inr ⟨by omega, by omega⟩, _, _, rfl, rfl, _, _, rfl, rfl,
        _, _, rfl, rfl, ⟨by decide, by decide, by omega⟩, Or.inl ⟨_, rfl, _, rfl, _, _, rfl, rfl, e2, ?_⟩⟩
      have n0 := Int.emod_nonneg (((mix + 99961 * (c + 1) * (c + 1) + 47) ^ (3 : Int).toNat)) (show pr ≠ 0 by omega)
      have n1 := Int.emod_lt_of_pos (((mix + 99961 * (c + 1) * (c + 1) + 47) ^ (3 : Int).toNat)) e2
      refine ⟨_, rfl, _, rfl, Or.inl ⟨_, rfl, _, _, rfl, rfl, (by show (0 : Int) < 10009; decide), _, rfl, p, _, _, _, rfl, rfl, SqL.of hp1, rfl, _, _, rfl, rfl, Or.inl (by decide), _, _, rfl, rfl, _, _, rfl, rfl, Or.inl ⟨by omega, by omega⟩, _, _, rfl, rfl, ⟨by decide, by decide⟩,
        Or.inl ⟨_, rfl, _, rfl, _, _, rfl, rfl, u0, ?_⟩⟩⟩
      refine k _ _ (Int.emod_nonneg _ (by omega)) (Int.emod_lt_of_pos _ u0) ⟨_, _, _, hp1, o0, m0, m1, by omega, by omega⟩ fun b o eb nb => ?_
      have hb2 : (upd H p (.lst [.int own, .int mix, .int (c + 1)])) b = some o := by rw [upd_ne nb]; exact eb
      rw [upd_ne (ne_of_none hb2 hl)]
      exact hb2
end
section
variable {P : Program} {w : World} {K : PySem.W.Frag} {mg : Str → Option Value} {base : Heap} {A : Ad}
/-- _law_of(pot, some): one of a list's items -/
def spOf : Sp := fun vs H Q _ => ∃ (p l : Addr) (xs : List V) (n : Nat), vs = [.ref p, .ref l] ∧ H l = some (.lst xs) ∧ l ≠ p ∧ xs ≠ [] ∧ xs.length ≤ 1000 ∧ Pot H p n ∧ n ≤ 100000 ∧ ∀ v H', v ∈ xs → Pot H' p (n + 1) → SameBut p H H' → Q v H'
theorem ok_law_of (T : Txt K mg A) : FnOk P w K mg base CX0 2 A.f_law_of A.d_law_of ["pot", "some"] spOf := by
  refine T.F_law_of.ok sc_law_of (fun vs H Q E h => ?_) (fun cdv B outer s H vs Q E hr h => ?_)
  · obtain ⟨p, l, xs, n, rfl, _⟩ := h
    rfl
  · obtain ⟨p, l, xs, n, rfl, hl, nlp, ne, hlen, hP, hn, k⟩ := h
    refine ⟨_, pss_one (ps_ret (pe_ix ix_list (pv 1) (pe_call (ok_law_take T) hr rfl T.g_law_take T.F_law_take.kp T.b_law_take .nil pass0 (pa_cons (pv 0) (pa_cons (pe_callB call_len_seq (by rfl) T.z_len (by decide +kernel) (pa_cons (pv 1) pa_nil)) pa_nil))) (fun _ _ => rfl))), ?_⟩
    have h0 : 0 < xs.length := List.length_pos_iff.mpr ne
    refine ⟨_, rfl, _, rfl, _, rfl, l, _, rfl, Or.inl (SqL.of hl), p, _, n, rfl, (by omega), ?_, hP, hn, fun r H' r0 r1 hP' sb => ?_⟩
    · have : ((xs.length : Int)).natAbs < 2 ^ 10 := by omega
      exact up_lt this (by decide)
    · obtain ⟨v, hv, hm⟩ := at_mem r0 r1
      exact ⟨l, _, _, _, rfl, rfl, SqL.of (sb _ _ hl nlp), hv, k v H' hm hP' sb⟩
end
/-! ### the law's own fractions -/
/-- a pair of ints at r -/
structure Pr (H : Hp) (r : Addr) (t b : Int) (n : Nat) : Prop where
  at_ : H r = some (.tup [.int t, .int b])
  lt : t.natAbs < 2 ^ n
  pos : 0 < b
  lb : b.natAbs < 2 ^ n
theorem Pr.but {p r : Addr} {H H' : Hp} {t b : Int} {n : Nat} (h : Pr H r t b n) (s : SameBut p H H') (hp : ∃ xs, H p = some (.lst xs)) : Pr H' r t b n := ⟨tup_but h.at_ s hp, h.lt, h.pos, h.lb⟩
theorem Pr.same {r : Addr} {H H' : Hp} {t b : Int} {n : Nat} (h : Pr H r t b n) (s : Same H H') : Pr H' r t b n := ⟨s _ _ h.at_, h.lt, h.pos, h.lb⟩
theorem Pr.bd {r : Addr} {H : Hp} {t b : Int} {n : Nat} (h : Pr H r t b n) : Bd n (Rat.divInt t b) := Bd.mk' (Int.ne_of_gt h.pos) h.lt h.lb
def BI (n : Nat) (v : V) : Prop := ∃ t : Int, v = .int t ∧ t.natAbs < 2 ^ n
def BP (n : Nat) (v : V) : Prop := ∃ t : Int, v = .int t ∧ 0 < t ∧ t.natAbs < 2 ^ n
section
variable {P : Program} {w : World} {K : PySem.W.Frag} {mg : Str → Option Value} {base : Heap} {A : Ad}
def spLeast : Sp := fun vs H Q _ => ∃ t b : Int, vs = [.int t, .int b] ∧ b ≠ 0 ∧ b.natAbs < 2 ^ 9000 ∧ ∀ r H', Same H H' → H r = none → H' r = some (.tup [.int (Rat.divInt t b).num, .int ((Rat.divInt t b).den : Int)]) → Q (.ref r) H'
theorem ok_law_least (T : Txt K mg A) : FnOk P w K mg base CX0 1 A.f_law_least A.d_law_least ["above", "below"] spLeast := by
  refine T.F_law_least.ok sc_law_least (fun vs H Q E h => ?_) (fun cdv B outer s H vs Q E hr h => ?_)
  · obtain ⟨a, b, rfl, _⟩ := h
    rfl
  · obtain ⟨t, b, rfl, hb, hbd, k⟩ := h
    refine ⟨_, pss_cons (ps_par (i := 2) (j := 3) rfl sc_law_least.nd rfl rfl (by decide) rfl rfl (pa_cons (pe_callB call_abs (by rfl) T.z_abs (by decide +kernel) (pa_cons (pv 0) pa_nil)) (pa_cons (pe_callB call_abs (by rfl) T.z_abs (by decide +kernel) (pa_cons (pv 1) pa_nil)) pa_nil)) (by rfl))
      (pss_cons (ps_while PassesOwn.never (pt_cmpR op_ne (pv 3) pe_int (nomark _))
        (pss_one (ps_par (i := 2) (j := 3) rfl sc_law_least.nd rfl rfl (by decide) rfl rfl (pa_cons (pv 3) (pa_cons (pe_op op_mod (pe_callTy call_int1 (by rfl) T.z_int (by decide +kernel) (pa_cons (pv 2) pa_nil)) (pv 3)) pa_nil)) (by rfl))))
      (pss_cons (ps_set (i := 4) sc_law_least.nd rfl (Or.inl rfl) (pe_ifExp (pt_cmpR op_lt (pv 1) pe_int (nomark _)) (pe_un un_neg pe_int) pe_int))
      (pss_one (ps_ret (pe_tup (pa_cons (pe_op op_fdivG (pe_op op_mul (pv 4) (pv 0)) (pv 2)) (pa_cons (pe_op op_fdivG (pe_callB call_abs (by rfl) T.z_abs (by decide +kernel) (pa_cons (pv 1) pa_nil)) (pv 2)) pa_nil))))))), ?_⟩
    refine ⟨_, rfl, _, rfl, _, rfl, _, rfl, _, _, rfl, ?_⟩
    refine while_by (fun σ H' => ∃ c d : Nat, σ = [some (.int t), some (.int b), some (.int c), some (.int d), none] ∧ Nat.gcd c d = Nat.gcd t.natAbs b.natAbs ∧ H' = H) (fun σ _ => natAt σ 3)
      ⟨t.natAbs, b.natAbs, by rw [abs_nat, abs_nat]; rfl, rfl, rfl⟩ ?_ ?_
    · rintro σ H' ⟨c, d, rfl, hg, rfl⟩
      refine ⟨_, rfl, rfl, _, rfl, ?_⟩
      by_cases hd : d = 0
      · subst hd
        refine iteF ?_
        rw [Nat.gcd_zero_right] at hg
        have hc0 : 0 < c := by rw [hg]; exact gcd_ne hb rfl
        have hcl : c ≤ b.natAbs := by rw [hg]; exact gcd_le hb rfl
        have hc2 : ((c : Int)).natAbs.log2 < 9000 := log2_lt (by decide) (Nat.lt_of_le_of_lt (by omega) hbd)
        have e1 := least_num (t := t) hb hg
        have e2 := least_den (t := t) hb hg
        refine ⟨_, rfl, _, _, rfl, rfl, _, rfl, ?_⟩
        have fin : ∀ sg : Int, sg = (if b < 0 then -1 else 1) → (tRet (tTup (tCons (tOp (rI CDivG fun i j => .int (i.fdiv j)) (tOp (rI CMul fun i j => .int (i * j)) (tVar 4) (tVar 0)) (tVar 2)) (tCons (tOp (rI CDivG fun i j => .int (i.fdiv j))
            (tCB (fun xs H Q => ∃ i, xs = [.int i] ∧ Q (.int (if i < 0 then -i else i)) H) (tCons (tVar 1) tNil)) (tVar 2)) tNil)))) { nx := fun _ H' => Q .non H', rt := Q } [some (.int t), some (.int b), some (.int c), some (.int 0), some (.int sg)] H' := fun sg hs => by
          refine ⟨_, rfl, _, rfl, _, _, rfl, rfl, Or.inl (by rw [hs]; split <;> decide), _, rfl, _, _, rfl, rfl, ⟨by omega, hc2⟩, ?_⟩
          refine ⟨_, rfl, _, rfl, _, rfl, _, _, rfl, rfl, ⟨by omega, hc2⟩, (by show 2 ≤ sizeLine; decide), fun r nr => ?_⟩
          refine k r _ (same_new nr) nr ?_
          rw [← e1, ← e2, hs]
          exact upd_same
        refine ite2 (fun hlt => ?_) (fun hlt => ?_)
        · refine ⟨_, rfl, fin _ ?_⟩
          rw [if_pos (of_decide_eq_true hlt)]
        · exact fin _ (by rw [if_neg fun z => hlt (decide_eq_true z)])
      · have hne : (!decide (V.int (d : Int) = V.int 0)) = true := by
          rw [dint_ne (show (d : Int) ≠ 0 by omega)]
          rfl
        rw [hne]
        refine iteT ?_
        refine ⟨_, rfl, _, rfl, Or.inl ⟨_, rfl, _, rfl, _, _, rfl, rfl, (by show (0 : Int) < d; omega), _, _, rfl, ⟨d, c % d, ?_, ?_, rfl⟩, ?_⟩⟩
        · rfl
        · rw [← hg, Nat.gcd_comm c d, Nat.gcd_rec d c, Nat.gcd_comm]
        · show ((c : Int) % (d : Int)).toNat < (d : Int).toNat
          have := Int.emod_lt_of_pos (c : Int) (show (0 : Int) < d by omega)
          have := Int.emod_nonneg (c : Int) (show (d : Int) ≠ 0 by omega)
          omega
    · intro σ H Q Q' m h
      obtain ⟨v, e, q⟩ := h
      obtain ⟨z, b, e2, q2⟩ := q
      exact ⟨v, e, z, b, e2, m _ _ q2⟩
end
/-! ### one turn of the law -/
theorem same_mut {H0 H : Hp} {D : Addr} {o : HO} (s : Same H0 H) (h : H0 D = none) : Same H0 (upd H D o) := fun b u e => by
  rw [upd_ne (ne_of_none e h)]
  exact s b u e
theorem Num.upl {C D a : Addr} {H : Hp} {q : Rat} {xs : List V} {o : HO} (h : Num C H a q) (hD : H D = some (.lst xs)) : Num C (upd H D o) a q := h.but but_upd ⟨_, hD⟩
theorem memq {α : Type} {xs : List α} {i : Nat} {v : α} {R : α → Prop} (h : xs[i]? = some v) (hR : ∀ x ∈ xs, R x) : R v := hR v (List.mem_of_getElem? h)
theorem yes_of {σ : L2.St} {H : Hp} {Q : Bool → Hp → Prop} (h : Q true H) : tYes σ H Q := h
theorem get_nil {R : Prop} {j : Nat} {a : Addr} (h : ([] : List Addr)[j]? = some a) : R := by simp at h
theorem get_snoc {α : Type} {xs : List α} {y v : α} {j : Nat} (h : (xs ++ [y])[j]? = some v) : xs[j]? = some v ∨ (j = xs.length ∧ v = y) := by
  by_cases hj : j < xs.length
  · rw [List.getElem?_append_left hj] at h
    exact .inl h
  · rw [List.getElem?_append_right (by omega)] at h
    have : j - xs.length = 0 := by
      rcases Nat.eq_zero_or_pos (j - xs.length) with e | e
      · exact e
      · rw [List.getElem?_eq_none (by simpa using (show 1 ≤ j - xs.length from e))] at h
        cases h
    rw [this] at h
    exact .inr ⟨by omega, (Option.some.inj h).symm⟩
theorem get_map {xs : List Addr} {i : Nat} {v : V} (h : (xs.map V.ref)[i]? = some v) : ∃ a, xs[i]? = some a ∧ v = .ref a := by
  rw [List.getElem?_map] at h
  cases e : xs[i]? with
  | none => rw [e] at h; cases h
  | some a => rw [e] at h; exact ⟨a, rfl, (Option.some.inj h).symm⟩
theorem iteT' {c : Bool} {A B : Prop} (hc : c = true) (h : A) : if c = true then A else B := by
  rw [if_pos hc]
  exact h
theorem iteF' {c : Bool} {A B : Prop} (hc : c = false) (h : B) : if c = true then A else B := by
  rw [hc, if_neg Bool.false_ne_true]
  exact h
/-! ### fractions as pairs, in lowest terms -/
structure PQ (H : Hp) (r : Addr) (q : Rat) (n : Nat) : Prop where
  at_ : H r = some (.tup [.int q.num, .int (q.den : Int)])
  bd : Bd n q
theorem PQ.but {p r : Addr} {H H' : Hp} {q : Rat} {n : Nat} (h : PQ H r q n) (s : SameBut p H H') (hp : ∃ xs, H p = some (.lst xs)) : PQ H' r q n := ⟨tup_but h.at_ s hp, h.bd⟩
theorem PQ.same {r : Addr} {H H' : Hp} {q : Rat} {n : Nat} (h : PQ H r q n) (s : Same H H') : PQ H' r q n := ⟨s _ _ h.at_, h.bd⟩
theorem PQ.mono {r : Addr} {H : Hp} {q : Rat} {m n : Nat} (h : PQ H r q m) (l : m ≤ n) : PQ H r q n := ⟨h.at_, h.bd.mono l⟩
def BN (n : Nat) (v : V) : Prop := ∃ t : Int, v = .int t ∧ t ≠ 0 ∧ t.natAbs < 2 ^ n
/-- the pair of a fraction, as data -/
def pqD (q : Rat) : PyData := .tuple [.int q.num, .int (q.den : Int)]
theorem pq_eqv (p q : Rat) : PyData.eqv (pqD p) (pqD q) = decide (p = q) := by
  show ((p.num == q.num) && (((p.den : Int) == (q.den : Int)) && true)) = decide (p = q)
  rw [Bool.and_true]
  by_cases h : p = q
  · subst h
    simp
  · rw [decide_eq_false h]
    by_cases h1 : p.num = q.num
    · have h2 : ¬ ((p.den : Int) = (q.den : Int)) := fun e => h (Rat.ext h1 (by omega))
      rw [beq_eq_false_iff_ne.mpr h2, Bool.and_false]
    · rw [beq_eq_false_iff_ne.mpr h1, Bool.false_and]
theorem PQ.dp {K : PySem.W.Frag} {H : Hp} {r : Addr} {q : Rat} {n : Nat} (h : PQ H r q n) : Dp K H (.ref r) (pqD q) := .tup (SqT.of h.at_) (.cons (.int _) (.cons (.int _) .nil))
theorem value_eq (a b s : Rat) : Rat.divInt (a.num * (b.den : Int) * (s.den : Int) + b.num * s.num * (a.den : Int)) ((a.den : Int) * (b.den : Int) * (s.den : Int)) = a + b * s := by
  rw [← mul_eq b s]
  conv => rhs; rw [← Rat.num_divInt_den a]
  rw [Rat.divInt_add_divInt _ _ (den_ne a) (Int.mul_ne_zero (den_ne b) (den_ne s))]
  have e1 : a.num * (b.den : Int) * (s.den : Int) + b.num * s.num * (a.den : Int) = a.num * ((b.den : Int) * (s.den : Int)) + b.num * s.num * (a.den : Int) := by grind
  have e2 : (a.den : Int) * (b.den : Int) * (s.den : Int) = (a.den : Int) * ((b.den : Int) * (s.den : Int)) := by grind
  rw [e1, e2]
theorem joint_add (a b : Rat) : Rat.divInt (a.num * (b.den : Int) + 1 * b.num * (a.den : Int)) ((a.den : Int) * (b.den : Int)) = a + b := by
  rw [Int.one_mul]
  exact add_eq a b
theorem joint_sub (a b : Rat) : Rat.divInt (a.num * (b.den : Int) + -1 * b.num * (a.den : Int)) ((a.den : Int) * (b.den : Int)) = a - b := by
  rw [← sub_eq a b, Int.neg_one_mul, Int.neg_mul, ← Int.sub_eq_add_neg]
section
variable {P : Program} {w : World} {K : PySem.W.Frag} {mg : Str → Option Value} {base : Heap} {A : Ad}
theorem ok_Line_base (T : Txt K mg A) : FnOk P w K mg base CX0 1 A.f_Line_base A.d_Line_base ["self"] (getSp A.c_Line "own_base") := by
  refine T.F_Line_base.ok sc_Line_base (fun vs H Q E h => ?_) (fun cdv B outer s H vs Q E hr h => ?_)
  · obtain ⟨a, dx, fs, v, rfl, _⟩ := h
    rfl
  · obtain ⟨a, dx, fs, v, rfl, e, l, k⟩ := h
    exact ⟨_, pss_one (ps_ret (pe_fld (pv 0) rfl)), _, rfl, a, _, dx, fs, v, rfl, e, T.cl_Line, T.n_Line_own_base, l, k⟩
theorem ok_Line_slope (T : Txt K mg A) : FnOk P w K mg base CX0 1 A.f_Line_slope A.d_Line_slope ["self"] (getSp A.c_Line "own_slope") := by
  refine T.F_Line_slope.ok sc_Line_slope (fun vs H Q E h => ?_) (fun cdv B outer s H vs Q E hr h => ?_)
  · obtain ⟨a, dx, fs, v, rfl, _⟩ := h
    rfl
  · obtain ⟨a, dx, fs, v, rfl, e, l, k⟩ := h
    exact ⟨_, pss_one (ps_ret (pe_fld (pv 0) rfl)), _, rfl, a, _, dx, fs, v, rfl, e, T.cl_Line, T.n_Line_own_slope, l, k⟩
/-- line == any value: another line, or what is none -/
def spLineEq (K : PySem.W.Frag) (A : Ad) : Sp := fun vs H Q _ => ∃ (a : Addr) (b t : Rat) (y : V), vs = [.ref a, y] ∧ Lin A H a b t ∧
  ((∃ c b' t', y = .ref c ∧ Lin A H c b' t' ∧ Q (.bl (decide (b = b') && decide (t = t'))) H) ∨ (∃ ty, TyX K H y ty ∧ PySem.W.kitOne K ty (.ref A.c_Line) = some false ∧ Q (.bl false) H))
theorem ok_Line_eq (T : Txt K mg A) : FnOk P w K mg base CX0 2 A.f_Line_eq A.d_Line_eq ["self", "other"] (spLineEq K A) := by
  refine T.F_Line_eq.ok sc_Line_eq (fun vs H Q E h => ?_) (fun cdv B outer s H vs Q E hr h => ?_)
  · obtain ⟨a, b, t, y, rfl, _⟩ := h
    rfl
  · obtain ⟨a, b, t, y, rfl, ⟨dx, p, q, ha, ⟨d1, hp⟩, ⟨d2, hq⟩⟩, h⟩ := h
    have hr1 : Room 1 _ := hr.mono (by decide)
    refine ⟨_, pss_one (ps_ret (pe_and (pe_callB call_isi (by rfl) T.z_isinstance (by decide +kernel) (pa_cons (pv 1) (pa_cons (pe_glob (v := .ref A.c_Line) (by rfl) T.g_Line rfl) pa_nil)))
      (pe_and (pe_cmpR (op_ownEq (ok_Number_eq T) T.b_Number_eq T.m_Number_eq.at_ T.m_Number_eq.fn hr1 pass0) (pe_fld (pv 0) rfl) (pe_fld (pv 1) rfl) (nomark _)) (pe_one (pe_cmpR (op_ownEq (ok_Number_eq T) T.b_Number_eq T.m_Number_eq.at_ T.m_Number_eq.fn hr1 pass0) (pe_fld (pv 0) rfl) (pe_fld (pv 1) rfl) (nomark _)))))), ?_⟩
    rcases h with ⟨c, b', t', rfl, ⟨dx', p', q', hc, ⟨d1', hp'⟩, ⟨d2', hq'⟩⟩, k⟩ | ⟨ty, hty, hk, k⟩
    · refine ⟨_, rfl, _, _, _, _, true, rfl, .own _, .base (.ins hc T.cl_Line T.ca_Line T.cn T.ct T.cm_Line), T.kit_LinLin, true, rfl, ?_⟩
      refine iteT ?_
      refine ⟨_, rfl, a, _, dx, _, _, rfl, ha, T.cl_Line, T.n_Line_own_base, lf_base p q, _, rfl, c, _, dx', _, _, rfl, hc, T.cl_Line, T.n_Line_own_base, lf_base p' q', ?_⟩
      refine ⟨p, _, _, _, rfl, hp, .base (.ins hp' T.cl_Number T.ca_Number T.cn T.ct T.cm_Number), (by simp [PySem.W.notFirst]), p, p', b, b', rfl, ⟨_, hp⟩, ⟨_, hp'⟩, _, rfl, ?_⟩
      refine ite2 (fun e => ?_) (fun e => ?_)
      · rw [e, Bool.true_and] at k
        refine ⟨_, rfl, a, _, dx, _, _, rfl, ha, T.cl_Line, T.n_Line_own_slope, lf_slope p q, _, rfl, c, _, dx', _, _, rfl, hc, T.cl_Line, T.n_Line_own_slope, lf_slope p' q', ?_⟩
        exact ⟨q, _, _, _, rfl, hq, .base (.ins hq' T.cl_Number T.ca_Number T.cn T.ct T.cm_Number), (by simp [PySem.W.notFirst]), q, q', t, t', rfl, ⟨_, hq⟩, ⟨_, hq'⟩, k⟩
      · rw [Bool.eq_false_iff.mpr e, Bool.false_and] at k
        exact k
    · exact ⟨_, rfl, _, _, _, _, false, rfl, .own _, hty, hk, false, rfl, iteF k⟩
/-- a sum, a difference of lines -/
def spLine2 (A : Ad) (f : Rat → Rat → Rat) : Sp := fun vs H Q _ => ∃ (a c : Addr) (b t b' t' : Rat), vs = [.ref a, .ref c] ∧ Lin A H a b t ∧ Lin A H c b' t' ∧ Bd 4000 b ∧ Bd 4000 t ∧ Bd 4000 b' ∧ Bd 4000 t' ∧
  ∀ y H', Same H H' → H y = none → Lin A H' y (f b b') (f t t') → Q (.ref y) H'
theorem ok_Line_add (T : Txt K mg A) : FnOk P w K mg base CX0 5 A.f_Line_add A.d_Line_add ["self", "other"] (spLine2 A (· + ·)) := by
  refine T.F_Line_add.ok sc_Line_add (fun vs H Q E h => ?_) (fun cdv B outer s H vs Q E hr h => ?_)
  · obtain ⟨a, c, b, t, b', t', rfl, _⟩ := h
    rfl
  · obtain ⟨a, c, b, t, b', t', rfl, ⟨dx, p, q, ha, hp, hq⟩, ⟨dx', p', q', hc, hp', hq'⟩, bb, bt, bb', bt', k⟩ := h
    have hr2 : Room 2 _ := hr.mono (by decide)
    refine ⟨_, pss_one (ps_ret (pe_make T.M_Line (ok_Line_init T) hr2 rfl T.g_Line T.b_Line_init .nil pass0 (pa_cons (pe_op (op_own2 (ok_Number_add T) T.b_Number_add T.m_Number_add.at_ T.m_Number_add.fn T.sf_Number hr pass0) (pe_fld (pv 0) rfl) (pe_fld (pv 1) rfl))
      (pa_cons (pe_op (op_own2 (ok_Number_add T) T.b_Number_add T.m_Number_add.at_ T.m_Number_add.fn T.sf_Number hr pass0) (pe_fld (pv 0) rfl) (pe_fld (pv 1) rfl)) pa_nil)))), ?_⟩
    obtain ⟨d1, ep⟩ := id hp
    obtain ⟨d2, ep'⟩ := id hp'
    refine ⟨_, rfl, a, _, dx, _, _, rfl, ha, T.cl_Line, T.n_Line_own_base, lf_base p q, _, rfl, c, _, dx', _, _, rfl, hc, T.cl_Line, T.n_Line_own_base, lf_base p' q', ?_⟩
    refine ⟨p, _, _, p', _, _, rfl, rfl, ep, ep', p, p', b, b', rfl, hp, hp', bb, bb', fun x H1 s1 nx hx => ?_⟩
    obtain ⟨d3, eq⟩ := hq.mono s1
    obtain ⟨d4, eq'⟩ := hq'.mono s1
    refine ⟨_, rfl, a, _, dx, _, _, rfl, s1 _ _ ha, T.cl_Line, T.n_Line_own_slope, lf_slope p q, _, rfl, c, _, dx', _, _, rfl, s1 _ _ hc, T.cl_Line, T.n_Line_own_slope, lf_slope p' q', ?_⟩
    refine ⟨q, _, _, q', _, _, rfl, rfl, eq, eq', q, q', t, t', rfl, hq.mono s1, hq'.mono s1, bt, bt', fun y H2 s2 ny hy => ?_⟩
    intro z dz nz ndz nez
    refine ⟨z, dz, x, y, rfl, upd_same, rfl, ?_⟩
    obtain ⟨s3, L⟩ := made_lin (A := A) (hx.mono s2) hy nz ndz
    exact k z _ (s1.trans (s2.trans s3)) ((s1.trans s2).free nz) L
theorem ok_Line_sub (T : Txt K mg A) : FnOk P w K mg base CX0 5 A.f_Line_sub A.d_Line_sub ["self", "other"] (spLine2 A (· - ·)) := by
  refine T.F_Line_sub.ok sc_Line_sub (fun vs H Q E h => ?_) (fun cdv B outer s H vs Q E hr h => ?_)
  · obtain ⟨a, c, b, t, b', t', rfl, _⟩ := h
    rfl
  · obtain ⟨a, c, b, t, b', t', rfl, ⟨dx, p, q, ha, hp, hq⟩, ⟨dx', p', q', hc, hp', hq'⟩, bb, bt, bb', bt', k⟩ := h
    have hr2 : Room 2 _ := hr.mono (by decide)
    refine ⟨_, pss_one (ps_ret (pe_make T.M_Line (ok_Line_init T) hr2 rfl T.g_Line T.b_Line_init .nil pass0 (pa_cons (pe_op (op_own2 (ok_Number_sub T) T.b_Number_sub T.m_Number_sub.at_ T.m_Number_sub.fn T.sf_Number hr pass0) (pe_fld (pv 0) rfl) (pe_fld (pv 1) rfl))
      (pa_cons (pe_op (op_own2 (ok_Number_sub T) T.b_Number_sub T.m_Number_sub.at_ T.m_Number_sub.fn T.sf_Number hr pass0) (pe_fld (pv 0) rfl) (pe_fld (pv 1) rfl)) pa_nil)))), ?_⟩
    obtain ⟨d1, ep⟩ := id hp
    obtain ⟨d2, ep'⟩ := id hp'
    refine ⟨_, rfl, a, _, dx, _, _, rfl, ha, T.cl_Line, T.n_Line_own_base, lf_base p q, _, rfl, c, _, dx', _, _, rfl, hc, T.cl_Line, T.n_Line_own_base, lf_base p' q', ?_⟩
    refine ⟨p, _, _, p', _, _, rfl, rfl, ep, ep', p, p', b, b', rfl, hp, hp', bb, bb', fun x H1 s1 nx hx => ?_⟩
    obtain ⟨d3, eq⟩ := hq.mono s1
    obtain ⟨d4, eq'⟩ := hq'.mono s1
    refine ⟨_, rfl, a, _, dx, _, _, rfl, s1 _ _ ha, T.cl_Line, T.n_Line_own_slope, lf_slope p q, _, rfl, c, _, dx', _, _, rfl, s1 _ _ hc, T.cl_Line, T.n_Line_own_slope, lf_slope p' q', ?_⟩
    refine ⟨q, _, _, q', _, _, rfl, rfl, eq, eq', q, q', t, t', rfl, hq.mono s1, hq'.mono s1, bt, bt', fun y H2 s2 ny hy => ?_⟩
    intro z dz nz ndz nez
    refine ⟨z, dz, x, y, rfl, upd_same, rfl, ?_⟩
    obtain ⟨s3, L⟩ := made_lin (A := A) (hx.mono s2) hy nz ndz
    exact k z _ (s1.trans (s2.trans s3)) ((s1.trans s2).free nz) L
end
/-! ### the law's helpers -/
section
variable {P : Program} {w : World} {K : PySem.W.Frag} {mg : Str → Option Value} {base : Heap} {A : Ad}
def spDrawnQ (m n : Nat) : Sp := fun vs H Q _ => ∃ (p : Addr) (c : Nat), vs = [.ref p] ∧ Pot H p c ∧ c ≤ 90000 ∧ ∀ q r H', PQ H' r q n → Pot H' p (c + m) → SameBut p H H' → Q (.ref r) H'
theorem ok_law_drawn (T : Txt K mg A) : FnOk P w K mg base CX0 3 A.f_law_drawn A.d_law_drawn ["pot"] (spDrawnQ 4 60) := by
  refine T.F_law_drawn.ok sc_law_drawn (fun vs H Q E h => ?_) (fun cdv B outer s H vs Q E hr h => ?_)
  · obtain ⟨p, n, rfl, _⟩ := h
    rfl
  · obtain ⟨p, n, rfl, hP, hn, k⟩ := h
    have hr1 : Room 1 _ := hr.mono (by decide)
    refine ⟨_, pss_cons (ps_set (i := 1) sc_law_drawn.nd rfl (Or.inl rfl) (pe_call (ok_law_of T) hr rfl T.g_law_of T.F_law_of.kp T.b_law_of .nil pass0 (pa_cons (pv 0) (pa_cons (pe_lst
        (pa_cons pe_int (pa_cons pe_int (pa_cons pe_int (pa_cons (pe_un un_neg pe_int) (pa_cons pe_int (pa_cons pe_int (pa_cons (pe_un un_neg pe_int) (pa_cons pe_int
        (pa_cons (pe_op op_sub (pe_call (ok_law_take T) hr1 rfl T.g_law_take T.F_law_take.kp T.b_law_take .nil pass0 (pa_cons (pv 0) (pa_cons pe_int pa_nil))) pe_int) (pa_cons (pe_op op_powW pe_int pe_int) pa_nil))))))))))) pa_nil))))
      (pss_one (ps_ret (pe_call (ok_law_least T) hr1 rfl T.g_law_least T.F_law_least.kp T.b_law_least .nil pass0 (pa_cons (pv 1) (pa_cons (pe_call (ok_law_of T) hr rfl T.g_law_of T.F_law_of.kp T.b_law_of .nil pass0 (pa_cons (pv 0) (pa_cons (pe_lst
        (pa_cons pe_int (pa_cons pe_int (pa_cons pe_int (pa_cons pe_int (pa_cons (pe_un un_neg pe_int) (pa_cons pe_int
        (pa_cons (pe_op op_add pe_int (pe_call (ok_law_take T) hr1 rfl T.g_law_take T.F_law_take.kp T.b_law_take .nil pass0 (pa_cons (pv 0) (pa_cons pe_int pa_nil)))) pa_nil)))))))) pa_nil))) pa_nil))))), ?_⟩
    refine ⟨_, rfl, _, rfl, _, rfl, _, rfl, p, 200, n, rfl, (by decide), up_lt (n := 9000) (show (200 : Int).natAbs < 2 ^ 8 by decide) (by decide), hP, (by omega), fun r H1 r0 r1 hP1 s1 => ?_⟩
    refine ⟨_, _, rfl, rfl, _, _, rfl, rfl, ⟨by decide, by decide +kernel⟩, (by show 10 ≤ sizeLine; decide), fun l hl => ?_⟩
    obtain ⟨xs1, e1⟩ := hP1.lst
    refine ⟨p, l, _, n + 1, rfl, upd_same, (ne_of_none e1 hl).symm, by simp, by show 10 ≤ 1000; decide, hP1.same (same_new hl), (by omega), fun v H2 hv hP2 s2 => ?_⟩
    have h1 : ∀ v ∈ ([V.int 0, V.int 0, V.int 1, V.int (-1), V.int 2, V.int 3, V.int (-5), V.int 12, V.int (r - 100), V.int (10 ^ (15 : Int).toNat)] : List V), BI 60 v := by
      repeat (first | exact List.forall_mem_nil _ | refine List.forall_mem_cons.mpr ⟨⟨_, rfl, by first | decide | omega⟩, ?_⟩)
    obtain ⟨t, rfl, ht⟩ := h1 v hv
    refine ⟨_, rfl, _, rfl, _, rfl, _, rfl, p, 40, n + 1 + 1, rfl, (by decide), up_lt (n := 9000) (show (40 : Int).natAbs < 2 ^ 8 by decide) (by decide), hP2, (by omega), fun r' H3 r0' r1' hP3 s3 => ?_⟩
    refine ⟨_, _, rfl, rfl, (by show 7 ≤ sizeLine; decide), fun l' hl' => ?_⟩
    obtain ⟨xs3, e3⟩ := hP3.lst
    refine ⟨p, l', _, n + 1 + 1 + 1, rfl, upd_same, (ne_of_none e3 hl').symm, by simp, by show 7 ≤ 1000; decide, hP3.same (same_new hl'), (by omega), fun v' H4 hv' hP4 s4 => ?_⟩
    have h2 : ∀ v ∈ ([V.int 1, V.int 1, V.int 2, V.int 3, V.int (-4), V.int 12, V.int (1 + r')] : List V), BN 60 v := by
      repeat (first | exact List.forall_mem_nil _ | refine List.forall_mem_cons.mpr ⟨⟨_, rfl, by first | decide | omega, by first | decide | omega⟩, ?_⟩)
    obtain ⟨b, rfl, hb0, hb⟩ := h2 v' hv'
    refine ⟨t, b, rfl, hb0, up_lt hb (by decide), fun q H5 s5 nq hq => ?_⟩
    exact k _ q _ ⟨hq, Bd.mk' hb0 ht hb⟩ (hP4.same s5) (((s1.same (same_new hl)).trans s2).trans ((s3.same (same_new hl')).trans (s4.same s5)))
def spMade (A : Ad) : Sp := fun vs H Q _ => ∃ (r : Addr) (q : Rat) (n : Nat), vs = [.ref r] ∧ PQ H r q n ∧ n ≤ 9000 ∧ ∀ x H', Same H H' → H x = none → Num A.c_Number H' x q → Q (.ref x) H'
theorem ok_law_made (T : Txt K mg A) : FnOk P w K mg base CX0 4 A.f_law_made A.d_law_made ["pair"] (spMade A) := by
  refine T.F_law_made.ok sc_law_made (fun vs H Q E h => ?_) (fun cdv B outer s H vs Q E hr h => ?_)
  · obtain ⟨r, q, n, rfl, _⟩ := h
    rfl
  · obtain ⟨r, q, n, rfl, hp, hn, k⟩ := h
    refine ⟨_, pss_one (ps_ret (pe_make T.M_Number (ok_Number_init T) hr rfl T.g_Number (b_Number T) .nil pass0 (pa_cons (pe_ix ix_tup (pv 0) pe_int (fun _ _ => rfl)) (pa_cons (pe_ix ix_tup (pv 0) pe_int (fun _ _ => rfl)) pa_nil)))), ?_⟩
    refine ⟨_, rfl, r, _, _, _, rfl, rfl, SqT.of hp.at_, rfl, _, rfl, r, _, _, _, rfl, rfl, SqT.of hp.at_, rfl, ?_⟩
    intro x dx nx ndx nex
    refine ⟨x, dx, _, _, rfl, den_ne q, up_lt hp.bd.den' hn, upd_same, rfl, ?_⟩
    have e := made_num (C := A.c_Number) (Rat.divInt q.num q.den) nx ndx
    obtain ⟨dz, ez⟩ := e.2
    exact k x _ e.1 nx ⟨dz, ez.trans (by rw [Rat.num_divInt_den])⟩
def spIsNum (A : Ad) : Sp := fun vs H Q _ => ∃ (x r : Addr) (p q : Rat) (n : Nat), vs = [.ref x, .ref r] ∧ Num A.c_Number H x p ∧ PQ H r q n ∧ ∀ H', Same H H' → Q (.bl (decide (p = q))) H'
theorem ok_law_is_number (T : Txt K mg A) : FnOk P w K mg base CX0 3 A.f_law_is_number A.d_law_is_number ["told", "due"] (spIsNum A) := by
  refine T.F_law_is_number.ok sc_law_is_number (fun vs H Q E h => ?_) (fun cdv B outer s H vs Q E hr h => ?_)
  · obtain ⟨x, r, p, q, n, rfl, _⟩ := h
    rfl
  · obtain ⟨x, r, p, q, n, rfl, ⟨dx, hx⟩, hq, k⟩ := h
    refine ⟨_, pss_one (ps_ret (pe_and (pe_callB call_isi (by rfl) T.z_isinstance (by decide +kernel) (pa_cons (pv 0) (pa_cons (pe_glob (v := .ref A.c_Number) (by rfl) T.g_Number rfl) pa_nil)))
      (pe_one (pe_cmpR (op_eqD hr.units) (pe_tup (pa_cons (pe_prop (pv 0) T.cl_Number T.P_Number_top (ok_Number_top T) hr T.b_Number_top .nil pass0 rfl) (pa_cons (pe_prop (pv 0) T.cl_Number T.P_Number_bottom (ok_Number_bottom T) hr T.b_Number_bottom .nil pass0 rfl) pa_nil))) (pv 1) (nomark _))))), ?_⟩
    refine ⟨_, rfl, _, _, _, _, true, rfl, .own _, .base (.ins hx T.cl_Number T.ca_Number T.cn T.ct T.cm_Number), T.kit_NumNum, true, rfl, ?_⟩
    refine iteT ?_
    refine ⟨_, rfl, x, dx, _, rfl, hx, x, dx, _, _, rfl, hx, nf_top p, _, rfl, x, dx, _, rfl, hx, x, dx, _, _, rfl, hx, nf_bot p, (by show 2 ≤ sizeLine; decide), fun t ht => ?_⟩
    refine ⟨_, rfl, pqD p, pqD q, .tup (SqT.of upd_same) (.cons (.int _) (.cons (.int _) .nil)), (hq.same (same_new ht)).dp, rfl, rfl, ?_⟩
    rw [pq_eqv]
    exact k _ (same_new ht)
def spValue : Sp := fun vs H Q _ => ∃ (ra rb rs : Addr) (a b s : Rat), vs = [.ref ra, .ref rb, .ref rs] ∧ PQ H ra a 100 ∧ PQ H rb b 100 ∧ PQ H rs s 100 ∧ ∀ r H', Same H H' → PQ H' r (a + b * s) 400 → Q (.ref r) H'
theorem ok_law_value (T : Txt K mg A) : FnOk P w K mg base CX0 2 A.f_law_value A.d_law_value ["a", "b", "s"] spValue := by
  refine T.F_law_value.ok sc_law_value (fun vs H Q E h => ?_) (fun cdv B outer s H vs Q E hr h => ?_)
  · obtain ⟨ra, rb, rs, a, b, s, rfl, _⟩ := h
    rfl
  · obtain ⟨ra, rb, rs, a, b, s, rfl, ha, hb, hs, k⟩ := h
    refine ⟨_, pss_one (ps_ret (pe_call (ok_law_least T) hr rfl T.g_law_least T.F_law_least.kp T.b_law_least .nil pass0
      (pa_cons (pe_op op_add (pe_op op_mulW (pe_op op_mulW (pe_ix ix_tup (pv 0) pe_int (fun _ _ => rfl)) (pe_ix ix_tup (pv 1) pe_int (fun _ _ => rfl))) (pe_ix ix_tup (pv 2) pe_int (fun _ _ => rfl))) (pe_op op_mulW (pe_op op_mulW (pe_ix ix_tup (pv 1) pe_int (fun _ _ => rfl)) (pe_ix ix_tup (pv 2) pe_int (fun _ _ => rfl))) (pe_ix ix_tup (pv 0) pe_int (fun _ _ => rfl))))
        (pa_cons (pe_op op_mulW (pe_op op_mulW (pe_ix ix_tup (pv 0) pe_int (fun _ _ => rfl)) (pe_ix ix_tup (pv 1) pe_int (fun _ _ => rfl))) (pe_ix ix_tup (pv 2) pe_int (fun _ _ => rfl))) pa_nil)))), ?_⟩
    have w1 := imul_lt (imul_lt ha.bd.1 hb.bd.den') hs.bd.den'
    have w2 := imul_lt (imul_lt hb.bd.1 hs.bd.1) ha.bd.den'
    have w3 := imul_lt (imul_lt ha.bd.den' hb.bd.den') hs.bd.den'
    refine ⟨_, rfl, ra, _, _, _, rfl, rfl, SqT.of ha.at_, rfl, _, rfl, rb, _, _, _, rfl, rfl, SqT.of hb.at_, rfl, _, _, rfl, rfl, bdw ha.bd.1 hb.bd.den', _, rfl, rs, _, _, _, rfl, rfl, SqT.of hs.at_, rfl, _, _, rfl, rfl, bdw (imul_lt ha.bd.1 hb.bd.den') hs.bd.den', ?_⟩
    refine ⟨_, rfl, rb, _, _, _, rfl, rfl, SqT.of hb.at_, rfl, _, rfl, rs, _, _, _, rfl, rfl, SqT.of hs.at_, rfl, _, _, rfl, rfl, bdw hb.bd.1 hs.bd.1, _, rfl, ra, _, _, _, rfl, rfl, SqT.of ha.at_, rfl, _, _, rfl, rfl, bdw (imul_lt hb.bd.1 hs.bd.1) ha.bd.den', _, _, rfl, rfl, ?_⟩
    refine ⟨_, rfl, ra, _, _, _, rfl, rfl, SqT.of ha.at_, rfl, _, rfl, rb, _, _, _, rfl, rfl, SqT.of hb.at_, rfl, _, _, rfl, rfl, bdw ha.bd.den' hb.bd.den', _, rfl, rs, _, _, _, rfl, rfl, SqT.of hs.at_, rfl, _, _, rfl, rfl, bdw (imul_lt ha.bd.den' hb.bd.den') hs.bd.den', ?_⟩
    have n3 : (a.den : Int) * (b.den : Int) * (s.den : Int) ≠ 0 := Int.mul_ne_zero (Int.mul_ne_zero (den_ne a) (den_ne b)) (den_ne s)
    refine ⟨_, _, rfl, n3, up_lt w3 (by decide), fun r H' s1 nr hr' => ?_⟩
    have hb' : Bd 301 (Rat.divInt (a.num * (b.den : Int) * (s.den : Int) + b.num * s.num * (a.den : Int)) ((a.den : Int) * (b.den : Int) * (s.den : Int))) := Bd.mk' n3 (iadd_lt w1 w2) (up_lt w3 (by decide))
    rw [value_eq] at hr' hb'
    exact k r H' s1 ⟨hr', hb'.mono (by decide)⟩
def spJoint : Sp := fun vs H Q _ => ∃ (r1 r2 : Addr) (a b : Rat) (sg : Int), vs = [.ref r1, .ref r2, .int sg] ∧ PQ H r1 a 400 ∧ PQ H r2 b 400 ∧
  ((sg = 1 ∧ ∀ r H', Same H H' → PQ H' r (a + b) 900 → Q (.ref r) H') ∨ (sg = -1 ∧ ∀ r H', Same H H' → PQ H' r (a - b) 900 → Q (.ref r) H'))
theorem ok_law_joint (T : Txt K mg A) : FnOk P w K mg base CX0 2 A.f_law_joint A.d_law_joint ["one", "two", "sign"] spJoint := by
  refine T.F_law_joint.ok sc_law_joint (fun vs H Q E h => ?_) (fun cdv B outer s H vs Q E hr h => ?_)
  · obtain ⟨r1, r2, a, b, sg, rfl, _⟩ := h
    rfl
  · obtain ⟨r1, r2, a, b, sg, rfl, ha, hb, h⟩ := h
    refine ⟨_, pss_one (ps_ret (pe_call (ok_law_least T) hr rfl T.g_law_least T.F_law_least.kp T.b_law_least .nil pass0
      (pa_cons (pe_op op_add (pe_op op_mulW (pe_ix ix_tup (pv 0) pe_int (fun _ _ => rfl)) (pe_ix ix_tup (pv 1) pe_int (fun _ _ => rfl))) (pe_op op_mulW (pe_op op_mul (pv 2) (pe_ix ix_tup (pv 1) pe_int (fun _ _ => rfl))) (pe_ix ix_tup (pv 0) pe_int (fun _ _ => rfl))))
        (pa_cons (pe_op op_mulW (pe_ix ix_tup (pv 0) pe_int (fun _ _ => rfl)) (pe_ix ix_tup (pv 1) pe_int (fun _ _ => rfl))) pa_nil)))), ?_⟩
    have hsg : sg.natAbs < 2 ^ 1 := by
      rcases h with ⟨e, _⟩ | ⟨e, _⟩ <;> rw [e] <;> decide
    have w1 := imul_lt ha.bd.1 hb.bd.den'
    have w2 := imul_lt (imul_lt hsg hb.bd.1) ha.bd.den'
    have w3 := imul_lt ha.bd.den' hb.bd.den'
    refine ⟨_, rfl, r1, _, _, _, rfl, rfl, SqT.of ha.at_, rfl, _, rfl, r2, _, _, _, rfl, rfl, SqT.of hb.at_, rfl, _, _, rfl, rfl, bdw ha.bd.1 hb.bd.den', ?_⟩
    refine ⟨_, rfl, _, rfl, r2, _, _, _, rfl, rfl, SqT.of hb.at_, rfl, _, _, rfl, rfl, Or.inl ⟨by omega, by omega⟩, _, rfl, r1, _, _, _, rfl, rfl, SqT.of ha.at_, rfl, _, _, rfl, rfl, bdw (imul_lt hsg hb.bd.1) ha.bd.den', _, _, rfl, rfl, ?_⟩
    refine ⟨_, rfl, r1, _, _, _, rfl, rfl, SqT.of ha.at_, rfl, _, rfl, r2, _, _, _, rfl, rfl, SqT.of hb.at_, rfl, _, _, rfl, rfl, bdw ha.bd.den' hb.bd.den', ?_⟩
    have n3 : (a.den : Int) * (b.den : Int) ≠ 0 := Int.mul_ne_zero (den_ne a) (den_ne b)
    refine ⟨_, _, rfl, n3, up_lt w3 (by decide), fun r H' s1 nr hr' => ?_⟩
    have hb' : Bd 802 (Rat.divInt (a.num * (b.den : Int) + sg * b.num * (a.den : Int)) ((a.den : Int) * (b.den : Int))) := Bd.mk' n3 (iadd_lt (up_lt w1 (by decide)) w2) (up_lt w3 (by decide))
    rcases h with ⟨e, k⟩ | ⟨e, k⟩
    · subst e
      rw [joint_add] at hr' hb'
      exact k r H' s1 ⟨hr', hb'.mono (by decide)⟩
    · subst e
      rw [joint_sub] at hr' hb'
      exact k r H' s1 ⟨hr', hb'.mono (by decide)⟩
end
/-! ### one turn of the law -/
theorem vals_rev : ∀ {xs : List V} {us : List Value}, Vals xs us → Vals xs.reverse us.reverse
  | _, _, .nil => .nil
  | _, _, .cons r t => by
    rw [List.reverse_cons, List.reverse_cons]
    exact (vals_rev t).append (.cons r .nil)
theorem dec_self {α : Type} [DecidableEq α] (a : α) : (!decide (a = a)) = false := by rw [decide_eq_true rfl]; rfl
section
variable {P : Program} {w : World} {K : PySem.W.Frag} {mg : Str → Option Value} {base : Heap} {A : Ad}
theorem kb_Line_slope_base (T : Txt K mg A) : KBn K A.d_Line_init ["self", "base", "slope"] 1 ["slope", "base"] (fun us ws => us ++ ws.reverse) (fun vs zs => vs ++ zs.reverse) :=
  kbn_of T.F_Line_init 1 ["slope", "base"] (fun us ws => us ++ ws.reverse) (fun r1 r2 => r1.append (vals_rev r2)) fun kV dc pm an cd ct us ws l1 l2 => by
    match us, l1, ws, l2 with
    | [u1], _, [w1, w2], _ => rfl
theorem Lin.but {A : Ad} {H H' : Hp} {a p : Addr} {b t : Rat} (h : Lin A H a b t) (s : SameBut p H H') (hp : ∃ xs, H p = some (.lst xs)) : Lin A H' a b t := by
  obtain ⟨dx, u, v, e, h1, h2⟩ := h.ex
  obtain ⟨xs, ep⟩ := id hp
  exact ⟨dx, u, v, s _ _ e (ne_of e ep (by intro z; cases z)), h1.but s hp, h2.but s hp⟩
theorem PQ.to {H : Hp} {r : Addr} {p q : Rat} {n : Nat} (h : PQ H r p n) (e : p = q) : PQ H r q n := e ▸ h
/-- a Number told at t, and its pair -/
def Tld (A : Ad) (H : Hp) (t : Addr) : Prop := ∃ y r v, H t = some (.tup [.ref y, .ref r]) ∧ Num A.c_Number H y v ∧ PQ H r v 900
theorem Tld.mono {A : Ad} {H H' : Hp} {t : Addr} (h : Tld A H t) (s : Same H H') : Tld A H' t := by
  obtain ⟨y, r, v, e1, e2, e3⟩ := h
  exact ⟨y, r, v, s _ _ e1, e2.mono s, e3.same s⟩
theorem Tld.upl {A : Ad} {H : Hp} {t D : Addr} {xs : List V} {o : HO} (h : Tld A H t) (hD : H D = some (.lst xs)) : Tld A (upd H D o) t := by
  obtain ⟨y, r, v, e1, e2, e3⟩ := h
  exact ⟨y, r, v, by rw [upd_ne (ne_of e1 hD (by intro z; cases z))]; exact e1, e2.upl hD, e3.but but_upd ⟨_, hD⟩⟩
/-- what is no line like this one -/
def Odd (K : PySem.W.Frag) (A : Ad) (p q : Rat) (H : Hp) (y : V) : Prop := (∃ c b t, y = .ref c ∧ Lin A H c b t ∧ (decide (p = b) && decide (q = t)) = false) ∨ ∃ ty, TyX K H y ty ∧ PySem.W.kitOne K ty (.ref A.c_Line) = some false ∧ PySem.W.notFirst K A.c_Line ty = true
def spRight (m : Nat) : Sp := fun vs H Q _ => ∃ (p : Addr) (n : Nat), vs = [.ref p] ∧ Pot H p n ∧ n ≤ 80000 ∧ ∀ H', Pot H' p (n + m) → SameBut p H H' → Q (.bl true) H'
theorem ok_law_is_right (T : Txt K mg A) : FnOk P w K mg base CX0 7 A.f_law_is_right A.d_law_is_right ["pot"] (spRight 40) := by
  refine T.F_law_is_right.ok sc_law_is_right (fun vs H Q E h => ?_) (fun cdv B outer s H vs Q E hr h => ?_)
  · obtain ⟨p, n, rfl, _⟩ := h
    rfl
  · obtain ⟨p, n, rfl, hP, hn, k⟩ := h
    have hr2 : Room 2 _ := hr.mono (by decide)
    have hr3 : Room 3 _ := hr.mono (by decide)
    have hr4 : Room 4 _ := hr.mono (by decide)
    have hr5 : Room 5 _ := hr.mono (by decide)
    refine ⟨_, (pss_cons (ps_par (i := 1) (j := 2) rfl sc_law_is_right.nd rfl rfl (by decide) rfl rfl (pa_cons (pe_call (ok_law_drawn T) hr3 rfl T.g_law_drawn T.F_law_drawn.kp T.b_law_drawn .nil pass0 (pa_cons (pv 0) pa_nil)) (pa_cons (pe_call (ok_law_drawn T) hr3 rfl T.g_law_drawn T.F_law_drawn.kp T.b_law_drawn .nil pass0 (pa_cons (pv 0) pa_nil)) pa_nil)) (by rfl))
      (pss_cons (ps_par (i := 3) (j := 4) rfl sc_law_is_right.nd rfl rfl (by decide) rfl rfl (pa_cons (pe_call (ok_law_drawn T) hr3 rfl T.g_law_drawn T.F_law_drawn.kp T.b_law_drawn .nil pass0 (pa_cons (pv 0) pa_nil)) (pa_cons (pe_call (ok_law_drawn T) hr3 rfl T.g_law_drawn T.F_law_drawn.kp T.b_law_drawn .nil pass0 (pa_cons (pv 0) pa_nil)) pa_nil)) (by rfl))
      (pss_cons (ps_set (i := 5) sc_law_is_right.nd rfl (Or.inr rfl) (pe_make T.M_Line (ok_Line_init T) hr2 rfl T.g_Line T.b_Line_init .nil pass0 (pa_cons (pe_call (ok_law_made T) hr4 rfl T.g_law_made T.F_law_made.kp T.b_law_made .nil pass0 (pa_cons (pv 1) pa_nil)) (pa_cons (pe_call (ok_law_made T) hr4 rfl T.g_law_made T.F_law_made.kp T.b_law_made .nil pass0 (pa_cons (pv 2) pa_nil)) pa_nil))))
      (pss_cons (ps_set (i := 6) sc_law_is_right.nd rfl (Or.inl rfl) (pe_makeK0 T.M_Line (ok_Line_init T) hr2 rfl T.g_Line (kb_Line_slope_base T) pass0 (pk_cons (pe_call (ok_law_made T) hr4 rfl T.g_law_made T.F_law_made.kp T.b_law_made .nil pass0 (pa_cons (pv 4) pa_nil)) (pk_cons (pe_call (ok_law_made T) hr4 rfl T.g_law_made T.F_law_made.kp T.b_law_made .nil pass0 (pa_cons (pv 3) pa_nil)) pk_nil))))
      (pss_cons (ps_par (i := 7) (j := 8) rfl sc_law_is_right.nd rfl rfl (by decide) rfl rfl (pa_cons (pe_op (op_own2 (ok_Line_add T) T.b_Line_add T.m_Line_add.at_ T.m_Line_add.fn T.sf_Line hr5 pass0) (pv 5) (pv 6)) (pa_cons (pe_op (op_own2 (ok_Line_sub T) T.b_Line_sub T.m_Line_sub.at_ T.m_Line_sub.fn T.sf_Line hr5 pass0) (pv 5) (pv 6)) pa_nil)) (by rfl))
      (pss_cons (ps_if (PW.pt (pw_or (pt_not (pt_val (pe_call (ok_law_is_number T) hr3 rfl T.g_law_is_number T.F_law_is_number.kp T.b_law_is_number .nil pass0 (pa_cons (pe_prop (pv 5) T.cl_Line T.P_Line_base (ok_Line_base T) hr2 T.b_Line_base .nil pass0 rfl) (pa_cons (pv 1) pa_nil))))) (pw_or1 (pt_not (pt_val (pe_call (ok_law_is_number T) hr3 rfl T.g_law_is_number T.F_law_is_number.kp T.b_law_is_number .nil pass0 (pa_cons (pe_prop (pv 5) T.cl_Line T.P_Line_slope (ok_Line_slope T) hr2 T.b_Line_slope .nil pass0 rfl) (pa_cons (pv 2) pa_nil)))))))) (pss_one (ps_ret pe_bl)) pss_nil)
      (pss_cons (ps_if (PW.pt (pw_or (pt_not (pt_val (pe_call (ok_law_is_number T) hr3 rfl T.g_law_is_number T.F_law_is_number.kp T.b_law_is_number .nil pass0 (pa_cons (pe_prop (pv 6) T.cl_Line T.P_Line_base (ok_Line_base T) hr2 T.b_Line_base .nil pass0 rfl) (pa_cons (pv 3) pa_nil))))) (pw_or1 (pt_not (pt_val (pe_call (ok_law_is_number T) hr3 rfl T.g_law_is_number T.F_law_is_number.kp T.b_law_is_number .nil pass0 (pa_cons (pe_prop (pv 6) T.cl_Line T.P_Line_slope (ok_Line_slope T) hr2 T.b_Line_slope .nil pass0 rfl) (pa_cons (pv 4) pa_nil)))))))) (pss_one (ps_ret pe_bl)) pss_nil)
      (pss_cons (ps_if (PW.pt (pw_or (pt_not (pt_val (pe_callB call_isi (by rfl) T.z_isinstance (by decide +kernel) (pa_cons (pv 7) (pa_cons (pe_glob (v := .ref A.c_Line) (by rfl) T.g_Line rfl) pa_nil))))) (pw_or1 (pt_not (pt_val (pe_callB call_isi (by rfl) T.z_isinstance (by decide +kernel) (pa_cons (pv 8) (pa_cons (pe_glob (v := .ref A.c_Line) (by rfl) T.g_Line rfl) pa_nil)))))))) (pss_one (ps_ret pe_bl)) pss_nil)
      (pss_cons (ps_for PassesOwn.never rfl (pi_list (pe_lst (pa_cons (pe_tup (pa_cons pe_int (pa_cons pe_int pa_nil))) (pa_cons (pe_tup (pa_cons pe_int (pa_cons pe_int pa_nil))) (pa_cons (pe_tup (pa_cons pe_int (pa_cons pe_int pa_nil))) (pa_cons (pe_call (ok_law_drawn T) hr3 rfl T.g_law_drawn T.F_law_drawn.kp T.b_law_drawn .nil pass0 (pa_cons (pv 0) pa_nil)) (pa_cons (pe_call (ok_law_drawn T) hr3 rfl T.g_law_drawn T.F_law_drawn.kp T.b_law_drawn .nil pass0 (pa_cons (pv 0) pa_nil)) pa_nil))))))) (pg_name (i := 9) sc_law_is_right.nd rfl (Or.inl rfl))
      (pss_cons (ps_par3 (i := 10) (j := 11) (l := 12) rfl sc_law_is_right.nd rfl rfl rfl (by decide) (by decide) (by decide) rfl rfl rfl (pa_cons (pe_call (ok_law_made T) hr4 rfl T.g_law_made T.F_law_made.kp T.b_law_made .nil pass0 (pa_cons (pv 9) pa_nil)) (pa_cons (pe_call (ok_law_value T) hr2 rfl T.g_law_value T.F_law_value.kp T.b_law_value .nil pass0 (pa_cons (pv 1) (pa_cons (pv 2) (pa_cons (pv 9) pa_nil)))) (pa_cons (pe_call (ok_law_value T) hr2 rfl T.g_law_value T.F_law_value.kp T.b_law_value .nil pass0 (pa_cons (pv 3) (pa_cons (pv 4) (pa_cons (pv 9) pa_nil)))) pa_nil))) (by rfl))
      (pss_cons (ps_set (i := 13) sc_law_is_right.nd rfl (Or.inl rfl) (pe_lst (pa_cons (pe_tup (pa_cons (pe_callI (pv 5) T.co_Line_call (ok_Line_call T) hr5 T.b_Line_call .nil pass0 (pa_cons (pv 10) pa_nil)) (pa_cons (pv 11) pa_nil))) (pa_cons (pe_tup (pa_cons (pe_callI (pv 6) T.co_Line_call (ok_Line_call T) hr5 T.b_Line_call .nil pass0 (pa_cons (pv 10) pa_nil)) (pa_cons (pv 12) pa_nil))) pa_nil))))
      (pss_cons (ps_expr (pe_bm PySem.F.plainAttrs_list PySem.F.slot_list_append PySem.F.type_list_append mt_append (pv 13) (pa_cons (pe_tup (pa_cons (pe_callI (pv 7) T.co_Line_call (ok_Line_call T) hr5 T.b_Line_call .nil pass0 (pa_cons (pv 10) pa_nil)) (pa_cons (pe_call (ok_law_joint T) hr2 rfl T.g_law_joint T.F_law_joint.kp T.b_law_joint .nil pass0 (pa_cons (pv 11) (pa_cons (pv 12) (pa_cons pe_int pa_nil)))) pa_nil))) pa_nil)))
      (pss_cons (ps_expr (pe_bm PySem.F.plainAttrs_list PySem.F.slot_list_append PySem.F.type_list_append mt_append (pv 13) (pa_cons (pe_tup (pa_cons (pe_callI (pv 8) T.co_Line_call (ok_Line_call T) hr5 T.b_Line_call .nil pass0 (pa_cons (pv 10) pa_nil)) (pa_cons (pe_call (ok_law_joint T) hr2 rfl T.g_law_joint T.F_law_joint.kp T.b_law_joint .nil pass0 (pa_cons (pv 11) (pa_cons (pv 12) (pa_cons (pe_un un_neg pe_int) pa_nil)))) pa_nil))) pa_nil)))
      (pss_one (ps_if (pt_not (pt_val (pe_callB (cr_all rfl) (by rfl) T.z_all (by decide +kernel) (pa_cons (pe_lc (own := [("this", 14), ("due", 15)]) (tt := tYes) rfl sc_law_is_right.nd (pi_list (pv 13)) (blkOk_by (N := N_law_is_right) (sc := defScope s_law_is_right) (by decide +kernel)) (fun _ _ _ _ _ => (pgTup K 2 rfl (pgs_cons (pg_name (i := 14) sc_law_is_right.nd rfl (Or.inl rfl)) (pgs_cons (pg_name (i := 15) sc_law_is_right.nd rfl (Or.inl rfl)) pgs_nil)))) (fun _ _ _ _ _ => pts_nil) (fun _ _ _ _ _ => (pe_call (ok_law_is_number T) hr3 rfl T.g_law_is_number T.F_law_is_number.kp T.b_law_is_number .nil pass0 (pa_cons (pv 14) (pa_cons (pv 15) pa_nil))))) pa_nil)))) (pss_one (ps_ret pe_bl)) pss_nil)))))))
      (pss_cons (ps_set (i := 16) sc_law_is_right.nd rfl (Or.inl rfl) (pe_make T.M_Line (ok_Line_init T) hr2 rfl T.g_Line T.b_Line_init .nil pass0 (pa_cons (pe_call (ok_law_made T) hr4 rfl T.g_law_made T.F_law_made.kp T.b_law_made .nil pass0 (pa_cons (pv 1) pa_nil)) (pa_cons (pe_call (ok_law_made T) hr4 rfl T.g_law_made T.F_law_made.kp T.b_law_made .nil pass0 (pa_cons (pv 2) pa_nil)) pa_nil))))
      (pss_cons (ps_if (PW.pt (pw_or (pt_cmpR op_ne (pe_cmpR (opOwnEq K (ok_Line_eq T) T.b_Line_eq T.m_Line_eq.at_ T.m_Line_eq.fn hr2 pass0) (pv 5) (pv 6) (nomark _)) (pe_and (pe_cmpR (opEqD K hr.units) (pv 1) (pv 3) (nomark _)) (pe_one (pe_cmpR (opEqD K hr.units) (pv 2) (pv 4) (nomark _)))) (nomark _)) (pw_or1 (pt_cmpR (op_ownNe K (ok_Line_eq T) T.b_Line_eq T.ne_Line T.cm_Line T.m_Line_eq.at_ T.m_Line_eq.fn hr3 pass0) (pv 5) (pv 16) (nomark _))))) (pss_one (ps_ret pe_bl)) pss_nil)
      (pss_cons (ps_set (i := 17) sc_law_is_right.nd rfl (Or.inl rfl) (pe_lst (pa_cons (pe_make T.M_Line (ok_Line_init T) hr2 rfl T.g_Line T.b_Line_init .nil pass0 (pa_cons (pe_call (ok_law_made T) hr4 rfl T.g_law_made T.F_law_made.kp T.b_law_made .nil pass0 (pa_cons (pe_call (ok_law_joint T) hr2 rfl T.g_law_joint T.F_law_joint.kp T.b_law_joint .nil pass0 (pa_cons (pv 1) (pa_cons (pe_tup (pa_cons pe_int (pa_cons pe_int pa_nil))) (pa_cons pe_int pa_nil)))) pa_nil)) (pa_cons (pe_call (ok_law_made T) hr4 rfl T.g_law_made T.F_law_made.kp T.b_law_made .nil pass0 (pa_cons (pv 2) pa_nil)) pa_nil))) pa_nil)))
      (pss_cons (ps_expr (pe_bm PySem.F.plainAttrs_list PySem.F.slot_list_append PySem.F.type_list_append mt_append (pv 17) (pa_cons (pe_make T.M_Line (ok_Line_init T) hr2 rfl T.g_Line T.b_Line_init .nil pass0 (pa_cons (pe_call (ok_law_made T) hr4 rfl T.g_law_made T.F_law_made.kp T.b_law_made .nil pass0 (pa_cons (pv 1) pa_nil)) (pa_cons (pe_call (ok_law_made T) hr4 rfl T.g_law_made T.F_law_made.kp T.b_law_made .nil pass0 (pa_cons (pe_call (ok_law_joint T) hr2 rfl T.g_law_joint T.F_law_joint.kp T.b_law_joint .nil pass0 (pa_cons (pv 2) (pa_cons (pe_tup (pa_cons pe_int (pa_cons pe_int pa_nil))) (pa_cons (pe_un un_neg pe_int) pa_nil)))) pa_nil)) pa_nil))) pa_nil)))
      (pss_cons (ps_set (i := 17) sc_law_is_right.nd rfl (Or.inl rfl) (pe_op op_cat (pv 17) (pe_lst (pa_cons pe_non (pa_cons (pe_call (ok_law_made T) hr4 rfl T.g_law_made T.F_law_made.kp T.b_law_made .nil pass0 (pa_cons (pv 1) pa_nil)) (pa_cons pe_int (pa_cons pe_str (pa_cons (pv 1) (pa_cons (pe_lst (pa_cons (pv 1) (pa_cons (pv 2) pa_nil))) (pa_cons pe_bl pa_nil))))))))))
      (pss_one (ps_ret (pe_not (pe_callB (cr_any rfl) (by rfl) T.z_any (by decide +kernel) (pa_cons (pe_lc (own := [("odd", 18)]) (g := gName 18) (tt := tYes) rfl sc_law_is_right.nd (pi_list (pv 17)) (blkOk_by (N := N_law_is_right) (sc := defScope s_law_is_right) (by decide +kernel)) (fun _ _ _ _ _ => (pg_name (i := 18) sc_law_is_right.nd rfl (Or.inl rfl))) (fun _ _ _ _ _ => pts_nil) (fun _ _ _ _ _ => (pe_cmpR (opOwnEq K (ok_Line_eq T) T.b_Line_eq T.m_Line_eq.at_ T.m_Line_eq.fn hr2 pass0) (pv 5) (pv 18) (nomark _)))) pa_nil))))))))))))))))))), ?_⟩
    -- a, b; c, d
    refine ⟨_, rfl, p, n, rfl, hP, (by omega), fun qa ra H1 ha hP1 s1 => ?_⟩
    refine ⟨_, rfl, p, _, rfl, hP1, (by omega), fun qb rb H2 hb hP2 s2 => ⟨_, _, rfl, ?_⟩⟩
    refine ⟨_, rfl, p, _, rfl, hP2, (by omega), fun qc rc H3 hc hP3 s3 => ?_⟩
    refine ⟨_, rfl, p, _, rfl, hP3, (by omega), fun qd rd H4 hd hP4 s4 => ⟨_, _, rfl, ?_⟩⟩
    have ha4 : PQ H4 ra qa 60 := ha.but (s2.trans (s3.trans s4)) hP1.lst
    have hb4 : PQ H4 rb qb 60 := hb.but (s3.trans s4) hP2.lst
    have hc4 : PQ H4 rc qc 60 := hc.but s4 hP3.lst
    have sb4 : SameBut p H H4 := s1.trans (s2.trans (s3.trans s4))
    clear s1 s2 s3 s4 ha hb hc hP1 hP2 hP3
    -- first
    refine ⟨_, rfl, ra, qa, 60, rfl, ha4, (by decide), fun x1 H6 t6 nx1 hx1 => ?_⟩
    refine ⟨_, rfl, rb, qb, 60, rfl, hb4.same t6, (by decide), fun x2 H7 t7 nx2 hx2 => ?_⟩
    intro f1 dx1 nf1 ndx1 nex1
    refine ⟨f1, dx1, x1, x2, rfl, upd_same, rfl, ?_⟩
    obtain ⟨t8, L1⟩ := made_lin (A := A) (hx1.mono t7) hx2 nf1 ndx1
    generalize upd (upd (upd H7 dx1 (.own f1)) f1 (.ins A.c_Line dx1 [])) f1 (.ins A.c_Line dx1 (lf x1 x2)) = H8 at *
    have u8 : Same _ H8 := t6.trans (t7.trans t8)
    -- second
    refine ⟨_, rfl, rd, qd, 60, rfl, hd.same u8, (by decide), fun x4 H9 t9 nx4 hx4 => ?_⟩
    refine ⟨_, rfl, rc, qc, 60, rfl, hc4.same (u8.trans t9), (by decide), fun x3 H10 t10 nx3 hx3 => ⟨rfl, rfl, ?_⟩⟩
    intro f2 dx2 nf2 ndx2 nex2
    refine ⟨f2, dx2, x3, x4, rfl, upd_same, rfl, ?_⟩
    obtain ⟨t11, L2⟩ := made_lin (A := A) hx3 (hx4.mono t10) nf2 ndx2
    generalize upd (upd (upd H10 dx2 (.own f2)) f2 (.ins A.c_Line dx2 [])) f2 (.ins A.c_Line dx2 (lf x3 x4)) = H11 at *
    have u11 : Same _ H11 := u8.trans (t9.trans (t10.trans t11))
    have L1' : Lin A H11 f1 _ _ := L1.mono (t9.trans (t10.trans t11))
    clear L1 hx1 hx2 hx3 hx4 t6 t7 t8 t9 t10 t11
    obtain ⟨e1, p1, q1, g1, hp1, hq1⟩ := id L1'.ex
    obtain ⟨e2, p2, q2, g2, hp2, hq2⟩ := id L2.ex
    have ba : Bd 60 qa := ha4.bd
    have bb : Bd 60 qb := hb4.bd
    have bc : Bd 60 qc := hc4.bd
    have bd : Bd 60 qd := hd.bd
    -- more, less
    refine ⟨_, rfl, _, rfl, f1, _, _, f2, _, _, rfl, rfl, g1, g2, f1, f2, _, _, _, _, rfl, L1', L2, ba.mono (by decide), bb.mono (by decide), bc.mono (by decide), bd.mono (by decide), fun f3 H12 t12 nf3 L3 => ?_⟩
    refine ⟨_, rfl, _, rfl, f1, _, _, f2, _, _, rfl, rfl, t12 _ _ g1, t12 _ _ g2, f1, f2, _, _, _, _, rfl, L1'.mono t12, L2.mono t12, ba.mono (by decide), bb.mono (by decide), bc.mono (by decide), bd.mono (by decide), fun f4 H13 t13 nf4 L4 => ⟨_, _, rfl, ?_⟩⟩
    have u13 : Same H11 H13 := t12.trans t13
    have v13 : Same _ H13 := u11.trans u13
    have L1a := L1'.mono u13
    have L2a := L2.mono u13
    have L3a := L3.mono t13
    have ha13 := ha4.same v13
    have hb13 := hb4.same v13
    have hc13 := hc4.same v13
    have hd13 := hd.same v13
    have hP13 := hP4.same v13
    have sb13 : SameBut p H H13 := sb4.same v13
    have g1a := u13 _ _ g1
    have g2a := u13 _ _ g2
    have hp1a := hp1.mono u13
    have hq1a := hq1.mono u13
    have hp2a := hp2.mono u13
    have hq2a := hq2.mono u13
    clear L1' L2 L3 ha4 hb4 hc4 hd hP4 sb4 g1 g2 hp1 hq1 hp2 hq2 u11 u13 v13 t12 t13 u8
    -- first.base, first.slope; second's
    refine ⟨_, rfl, f1, _, _, rfl, g1a, f1, _, _, _, rfl, g1a, lf_base _ _, _, rfl, p1, ra, _, _, _, rfl, hp1a, ha13, fun H14 t14 => ⟨_, rfl, ?_⟩⟩
    refine iteF' (dec_self _) ?_
    refine ⟨_, rfl, f1, _, _, rfl, t14 _ _ g1a, f1, _, _, _, rfl, t14 _ _ g1a, lf_slope _ _, _, rfl, q1, rb, _, _, _, rfl, hq1a.mono t14, hb13.same t14, fun H15 t15 => ⟨_, rfl, ?_⟩⟩
    refine iteF' (dec_self _) ?_
    have u15 := t14.trans t15
    refine ⟨_, rfl, f2, _, _, rfl, u15 _ _ g2a, f2, _, _, _, rfl, u15 _ _ g2a, lf_base _ _, _, rfl, p2, rc, _, _, _, rfl, hp2a.mono u15, hc13.same u15, fun H16 t16 => ⟨_, rfl, ?_⟩⟩
    refine iteF' (dec_self _) ?_
    have u16 := u15.trans t16
    refine ⟨_, rfl, f2, _, _, rfl, u16 _ _ g2a, f2, _, _, _, rfl, u16 _ _ g2a, lf_slope _ _, _, rfl, q2, rd, _, _, _, rfl, hq2a.mono u16, hd13.same u16, fun H17 t17 => ⟨_, rfl, ?_⟩⟩
    refine iteF' (dec_self _) ?_
    have u17 := u16.trans t17
    obtain ⟨e3, p3, q3, g3, _⟩ := (L3a.mono u17).ex
    obtain ⟨e4, p4, q4, g4, _⟩ := (L4.mono u17).ex
    refine ⟨_, rfl, _, _, _, _, true, rfl, .own _, .base (.ins g3 T.cl_Line T.ca_Line T.cn T.ct T.cm_Line), T.kit_LinLin, true, rfl, ?_⟩
    refine iteF ?_
    refine ⟨_, rfl, _, _, _, _, true, rfl, .own _, .base (.ins g4 T.cl_Line T.ca_Line T.cn T.ct T.cm_Line), T.kit_LinLin, true, rfl, ?_⟩
    refine iteF ?_
    -- for s in [..]
    refine ⟨(by show 2 ≤ sizeLine; decide), fun r0 nr0 => ⟨(by show 2 ≤ sizeLine; decide), fun r1 nr1 => ⟨(by show 2 ≤ sizeLine; decide), fun r2 nr2 => ?_⟩⟩⟩
    have w2 : Same H17 _ := (same_new nr0).trans ((same_new nr1).trans (same_new (o := .tup [.int 1, .int 2]) nr2))
    refine ⟨_, rfl, p, _, rfl, hP13.same (u17.trans w2), (by omega), fun qs3 r3 H18 h3 hP18 s18 => ?_⟩
    refine ⟨_, rfl, p, _, rfl, hP18, (by omega), fun qs4 r4 H19 h4 hP19 s19 => ?_⟩
    refine ⟨by show 5 ≤ sizeLine; decide, fun sl hsl => ?_⟩
    have wb : SameBut p H13 (upd H19 sl (.lst [.ref r0, .ref r1, .ref r2, .ref r3, .ref r4])) := ((Same.but p (u17.trans w2)).trans (s18.trans s19)).same (same_new hsl)
    have hP20 := hP19.same (same_new (o := .lst [.ref r0, .ref r1, .ref r2, .ref r3, .ref r4]) hsl)
    have hlP := hP13.lst
    have hs20 : ∀ y ∈ ([V.ref r0, V.ref r1, V.ref r2, V.ref r3, V.ref r4] : List V), ∃ r q, y = V.ref r ∧ PQ (upd H19 sl (.lst [.ref r0, .ref r1, .ref r2, .ref r3, .ref r4])) r q 60 := by
      have k0 : PQ (upd H17 r0 (.tup [.int 0, .int 1])) r0 0 60 := ⟨upd_same, ⟨by decide, by decide⟩⟩
      have k1 : PQ (upd (upd H17 r0 (.tup [.int 0, .int 1])) r1 (.tup [.int 1, .int 1])) r1 1 60 := ⟨upd_same, ⟨by decide, by decide⟩⟩
      have k2 : PQ (upd (upd (upd H17 r0 (.tup [.int 0, .int 1])) r1 (.tup [.int 1, .int 1])) r2 (.tup [.int 1, .int 2])) r2 (Rat.divInt 1 2) 60 := ⟨upd_same, ⟨by decide, by decide⟩⟩
      have hl17 := (hP13.same (u17.trans w2)).lst
      refine List.forall_mem_cons.mpr ⟨⟨_, _, rfl, ((k0.same ((same_new nr1).trans (same_new nr2))).but (s18.trans s19) hl17).same (same_new hsl)⟩, List.forall_mem_cons.mpr ⟨⟨_, _, rfl, ((k1.same (same_new nr2)).but (s18.trans s19) hl17).same (same_new hsl)⟩,
        List.forall_mem_cons.mpr ⟨⟨_, _, rfl, (k2.but (s18.trans s19) hl17).same (same_new hsl)⟩, List.forall_mem_cons.mpr ⟨⟨_, _, rfl, (h3.but s19 hP18.lst).same (same_new hsl)⟩, List.forall_mem_cons.mpr ⟨⟨_, _, rfl, h4.same (same_new hsl)⟩, List.forall_mem_nil _⟩⟩⟩⟩⟩
    have hsl20 : (upd H19 sl (.lst [.ref r0, .ref r1, .ref r2, .ref r3, .ref r4])) sl = some (.lst [.ref r0, .ref r1, .ref r2, .ref r3, .ref r4]) := upd_same
    refine ⟨sl, rfl, ⟨_, SqL.of upd_same⟩, ?_⟩
    generalize upd H19 sl (.lst [.ref r0, .ref r1, .ref r2, .ref r3, .ref r4]) = H20 at *
    have hr20 : ∀ {r q n}, PQ H13 r q n → PQ H20 r q n := fun h => h.but wb hlP
    have ha20 := hr20 ha13
    have hb20 := hr20 hb13
    have hc20 := hr20 hc13
    have hd20 := hr20 hd13
    have M1 := L1a.but wb hlP
    have M2 := L2a.but wb hlP
    have M3 := L3a.but wb hlP
    have M4 := L4.but wb hlP
    have sb20 : SameBut p H H20 := sb13.trans wb
    clear L1a L2a L3a L4 ha13 hb13 hc13 hd13 hP13 hP18 hP19 sb13 g1a g2a hp1a hq1a hp2a hq2a g3 g4 h3 h4 hr20 s18 s19 t14 t15 t16 t17 u15 u16 u17 w2 nr0 nr1 nr2 wb
    obtain ⟨e1, p1, q1, g1, _⟩ := id M1.ex
    obtain ⟨e2, p2, q2, g2, _⟩ := id M2.ex
    obtain ⟨e3, p3, q3, g3, _⟩ := id M3.ex
    obtain ⟨e4, p4, q4, g4, _⟩ := id M4.ex
    have bac : Bd 122 (qa + qc) := (ba.add bc).mono (by decide)
    have bbd : Bd 122 (qb + qd) := (bb.add bd).mono (by decide)
    have bac' : Bd 122 (qa - qc) := (ba.sub bc).mono (by decide)
    have bbd' : Bd 122 (qb - qd) := (bb.sub bd).mono (by decide)
    refine for_list (K := K) (a := sl) (xs := [V.ref r0, V.ref r1, V.ref r2, V.ref r3, V.ref r4]) (fun i σ H' => ∃ v9 v10 v11 v12 v13, σ = [some (.ref p), some (.ref ra), some (.ref rb), some (.ref rc), some (.ref rd), some (.ref f1), some (.ref f2), some (.ref f3), some (.ref f4), v9, v10, v11, v12, v13, none, none, none, none, none] ∧ Same H20 H')
      ⟨none, none, none, none, none, rfl, Same.refl _⟩ (fun i σ H' _ hh => by obtain ⟨_, _, _, _, _, _, z⟩ := hh; exact SqL.of (z _ _ hsl20)) ?_ ?_
    · rintro i y σ H' hi ⟨v9, v10, v11, v12, v13, rfl, z⟩
      obtain ⟨r, q, rfl, hq0⟩ := memq hi hs20
      have hq := hq0.same z
      have bq : Bd 60 q := hq.bd
      have hq1 : PQ H' r q 100 := hq.mono (by decide)
      refine ⟨_, rfl, r, q, 60, rfl, hq, (by decide), fun x Ha sa nx hx => ?_⟩
      refine ⟨_, rfl, _, rfl, _, rfl, ra, rb, r, qa, qb, q, rfl, (ha20.same (z.trans sa)).mono (by decide), (hb20.same (z.trans sa)).mono (by decide), hq1.same sa, fun ro Hb sb hro => ?_⟩
      refine ⟨_, rfl, _, rfl, _, rfl, rc, rd, r, qc, qd, q, rfl, (hc20.same (z.trans (sa.trans sb))).mono (by decide), (hd20.same (z.trans (sa.trans sb))).mono (by decide), hq1.same (sa.trans sb), fun rt Hc sc hrt => ⟨_, _, _, rfl, ?_⟩⟩
      have zc := z.trans (sa.trans (sb.trans sc))
      have hxc := hx.mono (sb.trans sc)
      have hroc := hro.same sc
      clear sa sb hx hro hq hq0
      -- told
      refine ⟨_, rfl, f1, rfl, _, rfl, _, _, zc _ _ g1, f1, x, qa, qb, q, rfl, M1.mono zc, hxc, ba.mono (by decide), bb.mono (by decide), bq.mono (by decide), fun y1 Hd sd hy1 => ⟨_, rfl, (by show 2 ≤ sizeLine; decide), fun t1 nt1 => ?_⟩⟩
      have s1 := sd.trans (same_new (o := .tup [.ref y1, .ref ro]) nt1)
      have z1 := zc.trans s1
      refine ⟨_, rfl, f2, rfl, _, rfl, _, _, z1 _ _ g2, f2, x, qc, qd, q, rfl, M2.mono z1, hxc.mono s1, bc.mono (by decide), bd.mono (by decide), bq.mono (by decide), fun y2 He se hy2 => ⟨_, rfl, (by show 2 ≤ sizeLine; decide), fun t2 nt2 => ?_⟩⟩
      have s2 := s1.trans (se.trans (same_new (o := .tup [.ref y2, .ref rt]) nt2))
      refine ⟨(by show 2 ≤ sizeLine; decide), fun D nD => ?_⟩
      have hOk1 : Tld A (upd (upd He t2 (.tup [.ref y2, .ref rt])) D (.lst [.ref t1, .ref t2])) t1 := by
        have h : (upd Hd t1 (.tup [.ref y1, .ref ro])) t1 = _ := upd_same
        exact ⟨y1, ro, _, same_new nD _ _ (same_new nt2 _ _ (se _ _ h)), hy1.mono ((same_new nt1).trans (se.trans ((same_new nt2).trans (same_new nD)))), (((hroc.same s2).same (same_new nD)).mono (by decide)).to (by grind)⟩
      have hOk2 : Tld A (upd (upd He t2 (.tup [.ref y2, .ref rt])) D (.lst [.ref t1, .ref t2])) t2 := by
        have h : (upd He t2 (.tup [.ref y2, .ref rt])) t2 = _ := upd_same
        exact ⟨y2, rt, _, same_new nD _ _ h, hy2.mono ((same_new nt2).trans (same_new nD)), (((hrt.same s2).same (same_new nD)).mono (by decide)).to (by grind)⟩
      have hD : (upd (upd He t2 (.tup [.ref y2, .ref rt])) D (.lst [.ref t1, .ref t2])) D = some (.lst [.ref t1, .ref t2]) := upd_same
      have s3 : Same Hc _ := s2.trans (same_new (o := .lst [.ref t1, .ref t2]) nD)
      have nDc : Hc D = none := s2.free nD
      generalize upd (upd He t2 (.tup [.ref y2, .ref rt])) D (.lst [.ref t1, .ref t2]) = Hf at *
      clear s1 z1 s2 sd se hy1 hy2 nt1 nt2 nD
      have z3 := zc.trans s3
      -- more
      refine ⟨_, rfl, .inl ⟨rfl, _, SqL.of hD⟩, _, rfl, f3, rfl, _, rfl, _, _, z3 _ _ g3, f3, x, _, _, q, rfl, M3.mono z3, hxc.mono s3, bac.mono (by decide), bbd.mono (by decide), bq.mono (by decide), fun y3 Hg sg hy3 => ?_⟩
      refine ⟨_, rfl, _, rfl, ro, rt, qa + qb * q, qc + qd * q, 1, rfl, (hroc.same (s3.trans sg)), (hrt.same (s3.trans sg)), Or.inl ⟨rfl, fun r5 Hh sh h5 => ⟨(by show 2 ≤ sizeLine; decide), fun t3 nt3 => ?_⟩⟩⟩
      have s4 := sg.trans (sh.trans (same_new (o := .tup [.ref y3, .ref r5]) nt3))
      refine ⟨D, _, _, rfl, rfl, s4 _ _ hD, (by show 2 < sizeLine; decide), ?_⟩
      have hOk3 : Tld A (upd (upd Hh t3 (.tup [.ref y3, .ref r5])) D (.lst ([.ref t1, .ref t2] ++ [.ref t3]))) t3 := by
        have h : (upd Hh t3 (.tup [.ref y3, .ref r5])) t3 = _ := upd_same
        exact ⟨y3, r5, _, by rw [upd_ne (ne_of h (s4 _ _ hD) (by intro z; cases z))]; exact h, (hy3.mono (sh.trans (same_new nt3))).upl (s4 _ _ hD), ((h5.same (same_new nt3)).but but_upd ⟨_, s4 _ _ hD⟩).to (by grind)⟩
      have hOk1' := (hOk1.mono s4).upl (o := .lst ([.ref t1, .ref t2] ++ [.ref t3])) (s4 _ _ hD)
      have hOk2' := (hOk2.mono s4).upl (o := .lst ([.ref t1, .ref t2] ++ [.ref t3])) (s4 _ _ hD)
      have hD' : (upd (upd Hh t3 (.tup [.ref y3, .ref r5])) D (.lst ([.ref t1, .ref t2] ++ [.ref t3]))) D = some (.lst [.ref t1, .ref t2, .ref t3]) := upd_same
      have s5 : Same Hc (upd (upd Hh t3 (.tup [.ref y3, .ref r5])) D (.lst ([.ref t1, .ref t2] ++ [.ref t3]))) := same_mut (s3.trans s4) nDc
      generalize upd (upd Hh t3 (.tup [.ref y3, .ref r5])) D (.lst ([.ref t1, .ref t2] ++ [.ref t3])) = Hi at *
      clear s4 sg sh hOk1 hOk2 hD hy3 nt3 s3 z3 h5
      have z5 := zc.trans s5
      -- less
      refine ⟨_, rfl, .inl ⟨rfl, _, SqL.of hD'⟩, _, rfl, f4, rfl, _, rfl, _, _, z5 _ _ g4, f4, x, _, _, q, rfl, M4.mono z5, hxc.mono s5, bac'.mono (by decide), bbd'.mono (by decide), bq.mono (by decide), fun y4 Hg sg hy4 => ?_⟩
      refine ⟨_, rfl, _, rfl, _, rfl, ro, rt, qa + qb * q, qc + qd * q, -1, rfl, (hroc.same (s5.trans sg)), (hrt.same (s5.trans sg)), Or.inr ⟨rfl, fun r6 Hh sh h6 => ⟨(by show 2 ≤ sizeLine; decide), fun t4 nt4 => ?_⟩⟩⟩
      have s6 := sg.trans (sh.trans (same_new (o := .tup [.ref y4, .ref r6]) nt4))
      refine ⟨D, _, _, rfl, rfl, s6 _ _ hD', (by show 3 < sizeLine; decide), ?_⟩
      have hOk4 : Tld A (upd (upd Hh t4 (.tup [.ref y4, .ref r6])) D (.lst ([.ref t1, .ref t2, .ref t3] ++ [.ref t4]))) t4 := by
        have h : (upd Hh t4 (.tup [.ref y4, .ref r6])) t4 = _ := upd_same
        exact ⟨y4, r6, _, by rw [upd_ne (ne_of h (s6 _ _ hD') (by intro z; cases z))]; exact h, (hy4.mono (sh.trans (same_new nt4))).upl (s6 _ _ hD'), ((h6.same (same_new nt4)).but but_upd ⟨_, s6 _ _ hD'⟩).to (by grind)⟩
      have hO1 := (hOk1'.mono s6).upl (o := .lst ([.ref t1, .ref t2, .ref t3] ++ [.ref t4])) (s6 _ _ hD')
      have hO2 := (hOk2'.mono s6).upl (o := .lst ([.ref t1, .ref t2, .ref t3] ++ [.ref t4])) (s6 _ _ hD')
      have hO3 := (hOk3.mono s6).upl (o := .lst ([.ref t1, .ref t2, .ref t3] ++ [.ref t4])) (s6 _ _ hD')
      have hD2 : (upd (upd Hh t4 (.tup [.ref y4, .ref r6])) D (.lst ([.ref t1, .ref t2, .ref t3] ++ [.ref t4]))) D = some (.lst [.ref t1, .ref t2, .ref t3, .ref t4]) := upd_same
      have s7 : Same Hc (upd (upd Hh t4 (.tup [.ref y4, .ref r6])) D (.lst ([.ref t1, .ref t2, .ref t3] ++ [.ref t4]))) := same_mut (s5.trans s6) nDc
      generalize upd (upd Hh t4 (.tup [.ref y4, .ref r6])) D (.lst ([.ref t1, .ref t2, .ref t3] ++ [.ref t4])) = Hj at *
      clear hOk1' hOk2' hOk3 hD' s6 s5 z5 sg sh nt4 hy4 h6
      have hall : ∀ y ∈ ([V.ref t1, V.ref t2, V.ref t3, V.ref t4] : List V), ∃ t, y = V.ref t ∧ Tld A Hj t := List.forall_mem_cons.mpr ⟨⟨_, rfl, hO1⟩, List.forall_mem_cons.mpr ⟨⟨_, rfl, hO2⟩, List.forall_mem_cons.mpr ⟨⟨_, rfl, hO3⟩, List.forall_mem_cons.mpr ⟨⟨_, rfl, hOk4⟩, List.forall_mem_nil _⟩⟩⟩⟩
      refine ⟨_, rfl, D, rfl, ⟨_, SqL.of hD2⟩, fun D2 nD2 => lc_list (K := K) (a := D) (xs := [V.ref t1, V.ref t2, V.ref t3, V.ref t4]) (fun i Hh => Same Hj Hh ∧ Hh D2 = some (.lst ((List.replicate i true).map V.bl)))
        ⟨same_new nD2, upd_same⟩ (fun i Hh _ hh => SqL.of (hh.1 _ _ hD2)) ?_ ?_⟩
      · rintro i y Hh hi ⟨z', hE⟩
        obtain ⟨t, rfl, yy, rr, v, e1, e2, e3⟩ := memq hi hall
        have hi4 : i < 4 := (List.getElem?_eq_some_iff.mp hi).1
        refine ⟨t, _, rfl, SqT.of (z' _ _ e1), rfl, _, _, rfl, _, _, rfl, rfl, ?_⟩
        refine ⟨rfl, yes_of ?_⟩
        refine iteT ?_
        refine ⟨_, rfl, _, rfl, yy, rr, v, v, 900, rfl, e2.mono z', e3.same z', fun Hk sk => ?_⟩
        refine ⟨_, sk _ _ hE, ?_, same_mut (z'.trans sk) nD2, ?_⟩
        · rw [List.length_map, List.length_replicate]
          exact Nat.lt_trans hi4 (by decide)
        · rw [upd_same, decide_eq_true rfl, List.replicate_succ', List.map_append]
          rfl
      rintro Hk ⟨sk, hE⟩
      refine ⟨D2, List.replicate 4 true, rfl, SqL.of hE, ?_⟩
      refine ⟨_, rfl, ?_⟩
      refine iteF' (by rfl) ?_
      exact ⟨_, _, _, _, _, rfl, zc.trans (s7.trans sk)⟩
    rintro σ Hl ⟨v9, v10, v11, v12, v13, rfl, z21⟩
    have ha21 := ha20.same z21
    have hb21 := hb20.same z21
    have hc21 := hc20.same z21
    have hd21 := hd20.same z21
    have N1 := M1.mono z21
    have N2 := M2.mono z21
    have h1 := z21 _ _ g1
    have h2 := z21 _ _ g2
    have sb21 := sb20.same z21
    have hP21 := hP20.same z21
    clear ha20 hb20 hc20 hd20 M1 M2 M3 M4 g1 g2 g3 g4 sb20 hP20 hs20 hsl20 hlP z21
    -- again
    refine ⟨_, rfl, ra, qa, 60, rfl, ha21, (by decide), fun x5 H22 t22 nx5 hx5 => ?_⟩
    refine ⟨_, rfl, rb, qb, 60, rfl, hb21.same t22, (by decide), fun x6 H23 t23 nx6 hx6 => ?_⟩
    intro f5 dx5 nf5 ndx5 nex5
    refine ⟨f5, dx5, x5, x6, rfl, upd_same, rfl, ?_⟩
    obtain ⟨t24, L5⟩ := made_lin (A := A) (hx5.mono t23) hx6 nf5 ndx5
    generalize upd (upd (upd H23 dx5 (.own f5)) f5 (.ins A.c_Line dx5 [])) f5 (.ins A.c_Line dx5 (lf x5 x6)) = H24 at *
    have u24 := t22.trans (t23.trans t24)
    have tyL : ∀ {H : Hp} {f dx : Addr} {fs : List (Str × V)}, H f = some (.ins A.c_Line dx fs) → TyX K H (.ref f) (.ref A.c_Line) := fun h => .base (.ins h T.cl_Line T.ca_Line T.cn T.ct T.cm_Line)
    obtain ⟨e5, p5, q5, g5, _⟩ := id L5.ex
    refine ⟨_, rfl, _, rfl, f1, _, _, _, rfl, u24 _ _ h1, tyL (u24 _ _ h2), (by simp [PySem.W.notFirst]), f1, qa, qb, _, rfl, N1.mono u24, Or.inl ⟨f2, qc, qd, rfl, N2.mono u24, ?_⟩⟩
    refine ⟨_, rfl, _, rfl, pqD qa, pqD qc, (ha21.same u24).dp, (hc21.same u24).dp, rfl, rfl, ?_⟩
    rw [pq_eqv]
    refine ⟨_, rfl, ?_⟩
    refine ite2 (fun e => ?yes) (fun e => ?no)
    case' yes =>
      refine ⟨_, rfl, _, rfl, pqD qb, pqD qd, (hb21.same u24).dp, (hd21.same u24).dp, rfl, rfl, ?_⟩
      rw [pq_eqv]
      refine ⟨rfl, _, rfl, ?_⟩
      refine iteF' (by rw [e, Bool.true_and]; exact dec_self _) ?_
    case' no =>
      refine ⟨rfl, _, rfl, ?_⟩
      refine iteF' (by rw [Bool.eq_false_iff.mpr e, Bool.false_and]; exact dec_self _) ?_
    all_goals
      refine ⟨_, rfl, _, rfl, f1, _, _, _, rfl, u24 _ _ h1, tyL g5, (by simp [PySem.W.notFirst]), f1, qa, qb, _, rfl, N1.mono u24, Or.inl ⟨f5, qa, qb, rfl, L5, ⟨_, rfl, _, rfl, ?_⟩⟩⟩
      refine iteF' (by rw [decide_eq_true rfl, decide_eq_true rfl]; rfl) ?_
      have ha24 := ha21.same u24
      have hb24 := hb21.same u24
      have M1 := N1.mono u24
      have sb24 := sb21.same u24
      have hP24 := hP21.same u24
      have h1a := u24 _ _ h1
      clear ha21 hb21 hc21 hd21 N1 N2 L5 sb21 hP21 h1 h2 u24 t24 t22 t23 e
      -- beside
      refine ⟨_, rfl, (by show 2 ≤ sizeLine; decide), fun u1 nu1 => ⟨ra, u1, qa, 1, 1, rfl, ((ha24.same (same_new nu1)).mono (by decide)), ⟨upd_same, ⟨by decide, by decide⟩⟩, Or.inl ⟨rfl, fun r5 H25 t25 k5 => ⟨r5, qa + 1, 900, rfl, k5, (by decide), fun x7 H26 t26 nx7 hx7 => ?_⟩⟩⟩⟩
      have s26 := (same_new nu1).trans (t25.trans t26)
      refine ⟨_, rfl, rb, qb, 60, rfl, hb24.same s26, (by decide), fun x8 H27 t27 nx8 hx8 => ?_⟩
      intro f6 dx6 nf6 ndx6 nex6
      refine ⟨f6, dx6, x7, x8, rfl, upd_same, rfl, ?_⟩
      obtain ⟨t28, L6⟩ := made_lin (A := A) (hx7.mono t27) hx8 nf6 ndx6
      refine ⟨(by show 1 ≤ sizeLine; decide), fun BL nBL => ?_⟩
      have L6' := L6.mono (same_new (o := .lst [.ref f6]) nBL)
      have s29 := s26.trans (t27.trans (t28.trans (same_new (o := .lst [.ref f6]) nBL)))
      have hBL : (upd (upd (upd (upd H27 dx6 (.own f6)) f6 (.ins A.c_Line dx6 [])) f6 (.ins A.c_Line dx6 (lf x7 x8))) BL (.lst [.ref f6])) BL = some (.lst [.ref f6]) := upd_same
      have nBL0 : H24 BL = none := (s26.trans (t27.trans t28)).free nBL
      generalize upd (upd (upd (upd H27 dx6 (.own f6)) f6 (.ins A.c_Line dx6 [])) f6 (.ins A.c_Line dx6 (lf x7 x8))) BL (.lst [.ref f6]) = H29 at *
      clear L6 hx7 hx8 t28 t27 s26 t26 t25 k5 nu1 nBL
      -- beside.append
      refine ⟨_, rfl, .inl ⟨rfl, _, SqL.of hBL⟩, _, rfl, ra, qa, 60, rfl, ha24.same s29, (by decide), fun x9 H30 t30 nx9 hx9 => ?_⟩
      have s30 := s29.trans t30
      refine ⟨_, rfl, (by show 2 ≤ sizeLine; decide), fun u2 nu2 => ⟨_, rfl, rb, u2, qb, Rat.divInt 1 3, -1, rfl, ((hb24.same (s30.trans (same_new nu2))).mono (by decide)), ⟨upd_same, ⟨by decide, by decide⟩⟩, Or.inr ⟨rfl, fun r6 H31 t31 k6 => ⟨r6, qb - Rat.divInt 1 3, 900, rfl, k6, (by decide), fun x10 H32 t32 nx10 hx10 => ?_⟩⟩⟩⟩
      have s32 := t30.trans ((same_new nu2).trans (t31.trans t32))
      intro f7 dx7 nf7 ndx7 nex7
      refine ⟨f7, dx7, x9, x10, rfl, upd_same, rfl, ?_⟩
      obtain ⟨t33, L7⟩ := made_lin (A := A) (hx9.mono ((same_new nu2).trans (t31.trans t32))) hx10 nf7 ndx7
      have s33 := s32.trans t33
      refine ⟨BL, _, _, rfl, rfl, s33 _ _ hBL, (by show 1 < sizeLine; decide), ?_⟩
      have lu : ∀ {H : Hp} {a : Addr} {b t : Rat} {D : Addr} {xs : List V} {o : HO}, Lin A H a b t → H D = some (.lst xs) → Lin A (upd H D o) a b t := fun h hD => h.but but_upd ⟨_, hD⟩
      have L7' := lu (o := .lst ([.ref f6] ++ [.ref f7])) L7 (s33 _ _ hBL)
      have L6'' := lu (o := .lst ([.ref f6] ++ [.ref f7])) (L6'.mono s33) (s33 _ _ hBL)
      have s34 := same_mut (o := .lst ([.ref f6] ++ [.ref f7])) (s29.trans s33) nBL0
      have hBL2 : (upd (upd (upd (upd H32 dx7 (.own f7)) f7 (.ins A.c_Line dx7 [])) f7 (.ins A.c_Line dx7 (lf x9 x10))) BL (.lst ([.ref f6] ++ [.ref f7]))) BL = some (.lst [.ref f6, .ref f7]) := upd_same
      generalize upd (upd (upd (upd H32 dx7 (.own f7)) f7 (.ins A.c_Line dx7 [])) f7 (.ins A.c_Line dx7 (lf x9 x10))) BL (.lst ([.ref f6] ++ [.ref f7])) = H34 at *
      clear L7 L6' hx9 hx10 t33 t32 t31 t30 k6 nu2 s33 s32 s30 s29 hBL nBL0
      -- beside + [..]
      refine ⟨_, rfl, _, rfl, ra, qa, 60, rfl, ha24.same s34, (by decide), fun x11 H35 t35 nx11 hx11 => ?_⟩
      refine ⟨_, rfl, _, rfl, _, rfl, (by show 2 ≤ sizeLine; decide), fun ab nab => ⟨(by show 7 ≤ sizeLine; decide), fun L2 nL2 => ?_⟩⟩
      have s36 := t35.trans ((same_new (o := .lst [.ref ra, .ref rb]) nab).trans (same_new (o := .lst [.non, .ref x11, .int 0, .str "", .ref ra, .ref ab, .bl true]) nL2))
      refine ⟨BL, L2, _, _, rfl, rfl, s36 _ _ hBL2, upd_same, (by show 9 ≤ sizeLine; decide), fun L3 nL3 => ?_⟩
      have s37 := s36.trans (same_new (o := .lst ([.ref f6, .ref f7] ++ [.non, .ref x11, .int 0, .str "", .ref ra, .ref ab, .bl true])) nL3)
      have hL3 : (upd (upd (upd H35 ab (.lst [.ref ra, .ref rb])) L2 (.lst [.non, .ref x11, .int 0, .str "", .ref ra, .ref ab, .bl true]))
          L3 (.lst ([.ref f6, .ref f7] ++ [.non, .ref x11, .int 0, .str "", .ref ra, .ref ab, .bl true]))) L3 = some (.lst [.ref f6, .ref f7, .non, .ref x11, .int 0, .str "", .ref ra, .ref ab, .bl true]) := upd_same
      have hab : (upd H35 ab (.lst [.ref ra, .ref rb])) ab = some (.lst [.ref ra, .ref rb]) := upd_same
      have hab3 := same_new (o := .lst ([.ref f6, .ref f7] ++ [.non, .ref x11, .int 0, .str "", .ref ra, .ref ab, .bl true])) nL3 _ _ (same_new (o := .lst [.non, .ref x11, .int 0, .str "", .ref ra, .ref ab, .bl true]) nL2 _ _ hab)
      have hx3 := hx11.mono ((same_new (o := .lst [.ref ra, .ref rb]) nab).trans ((same_new (o := .lst [.non, .ref x11, .int 0, .str "", .ref ra, .ref ab, .bl true]) nL2).trans (same_new (o := .lst ([.ref f6, .ref f7] ++ [.non, .ref x11, .int 0, .str "", .ref ra, .ref ab, .bl true])) nL3)))
      have A6 := L6''.mono s37
      have A7 := L7'.mono s37
      have s38 := s34.trans s37
      have hra := s38 _ _ ha24.at_
      generalize upd (upd (upd H35 ab (.lst [.ref ra, .ref rb])) L2 (.lst [.non, .ref x11, .int 0, .str "", .ref ra, .ref ab, .bl true]))
          L3 (.lst ([.ref f6, .ref f7] ++ [.non, .ref x11, .int 0, .str "", .ref ra, .ref ab, .bl true])) = Hz at *
      have hodd : ∀ y ∈ ([V.ref f6, V.ref f7, V.non, V.ref x11, V.int 0, V.str "", V.ref ra, V.ref ab, V.bl true] : List V), ∀ Hh, Same Hz Hh → Odd K A qa qb Hh y := by
        refine List.forall_mem_cons.mpr ⟨fun Hh z => .inl ⟨f6, _, _, rfl, A6.mono z, ?_⟩, List.forall_mem_cons.mpr ⟨fun Hh z => .inl ⟨f7, _, _, rfl, A7.mono z, ?_⟩, ?_⟩⟩
        · rw [decide_eq_false (by grind), Bool.false_and]
        · rw [Bool.and_comm, decide_eq_false (by
            have h13 : Rat.divInt 1 3 ≠ 0 := by decide
            grind), Bool.false_and]
        obtain ⟨dz, ez⟩ := hx3
        refine List.forall_mem_cons.mpr ⟨fun Hh z => .inr ⟨_, .base .non, T.kit_nonLin, by simp [PySem.W.notFirst, T.sub_nonLin]⟩, ?_⟩
        refine List.forall_mem_cons.mpr ⟨fun Hh z => .inr ⟨_, .base (.ins (z _ _ ez) T.cl_Number T.ca_Number T.cn T.ct T.cm_Number), T.kit_NumLin, by simp [PySem.W.notFirst, T.sub_NumLin]⟩, ?_⟩
        refine List.forall_mem_cons.mpr ⟨fun Hh z => .inr ⟨_, .base (.int _), T.kit_intLin, by simp [PySem.W.notFirst, T.sub_intLin]⟩, ?_⟩
        refine List.forall_mem_cons.mpr ⟨fun Hh z => .inr ⟨_, .base (.str _), T.kit_strLin, by simp [PySem.W.notFirst, T.sub_strLin]⟩, ?_⟩
        refine List.forall_mem_cons.mpr ⟨fun Hh z => .inr ⟨_, .base (.tup (z _ _ hra)), T.kit_tupLin, by simp [PySem.W.notFirst, T.sub_tupLin]⟩, ?_⟩
        refine List.forall_mem_cons.mpr ⟨fun Hh z => .inr ⟨_, .base (.lst (z _ _ hab3)), T.kit_lstLin, by simp [PySem.W.notFirst, T.sub_lstLin]⟩, ?_⟩
        exact List.forall_mem_cons.mpr ⟨fun Hh z => .inr ⟨_, .base (.bl _), T.kit_blLin, by simp [PySem.W.notFirst, T.sub_blLin]⟩, List.forall_mem_nil _⟩
      have Mz := M1.mono s38
      obtain ⟨ez1, pz, qz, gz, _⟩ := id Mz.ex
      refine ⟨_, rfl, L3, rfl, ⟨_, SqL.of hL3⟩, fun D2 nD2 => lc_list (K := K) (a := L3) (xs := [V.ref f6, V.ref f7, V.non, V.ref x11, V.int 0, V.str "", V.ref ra, V.ref ab, V.bl true]) (fun i Hh => Same Hz Hh ∧ Hh D2 = some (.lst ((List.replicate i false).map V.bl)))
        ⟨same_new nD2, upd_same⟩ (fun i Hh _ hh => SqL.of (hh.1 _ _ hL3)) ?_ ?_⟩
      · rintro i y Hh hi ⟨z', hE⟩
        have hi9 : i < 9 := (List.getElem?_eq_some_iff.mp hi).1
        have hput : ∃ acc, Hh D2 = some (.lst acc) ∧ acc.length < sizeLine ∧ Same Hz (upd Hh D2 (.lst (acc ++ [V.bl false]))) ∧ upd Hh D2 (.lst (acc ++ [V.bl false])) D2 = some (.lst ((List.replicate (i + 1) false).map V.bl)) := by
          refine ⟨_, hE, ?_, same_mut z' nD2, ?_⟩
          · rw [List.length_map, List.length_replicate]
            exact Nat.lt_trans hi9 (by decide)
          · rw [upd_same, List.replicate_succ', List.map_append]
            rfl
        refine ⟨rfl, yes_of ?_⟩
        refine iteT ?_
        rcases memq (R := fun y => ∀ Hh, Same Hz Hh → Odd K A qa qb Hh y) hi hodd Hh z' with ⟨c, b, t, rfl, L, hf⟩ | ⟨ty, hty, hk, hn⟩
        · obtain ⟨e8, p8, q8, g8, _⟩ := id L.ex
          refine ⟨_, rfl, _, rfl, f1, _, _, _, rfl, z' _ _ gz, tyL g8, (by simp [PySem.W.notFirst]), f1, qa, qb, _, rfl, Mz.mono z', Or.inl ⟨c, b, t, rfl, L, ?_⟩⟩
          rw [hf]
          exact hput
        · exact ⟨_, rfl, _, rfl, f1, _, _, _, rfl, z' _ _ gz, hty, hn, f1, qa, qb, _, rfl, Mz.mono z', Or.inr ⟨ty, hty, hk, hput⟩⟩
      rintro Hk ⟨sk, hE⟩
      refine ⟨D2, List.replicate 9 false, rfl, SqL.of hE, ?_⟩
      exact ⟨_, rfl, k _ ((hP24.same (s38.trans sk)).mono (by omega)) (sb24.same (s38.trans sk))⟩
end
/-! ### the law -/
theorem but_same {p : Addr} {H0 H H' : Hp} (sb : SameBut p H H') (s : Same H0 H) (h : H0 p = none) : Same H0 H' := fun b o e => sb b o (s b o e) (ne_of_none e h)
theorem Pot.upl {H : Hp} {p D : Addr} {n : Nat} {o : HO} (h : Pot H p n) (ne : p ≠ D) : Pot (upd H D o) p n := by
  obtain ⟨own, mix, c, e, h⟩ := h
  exact ⟨own, mix, c, by rw [upd_ne ne]; exact e, h⟩
theorem rep_map (n : Nat) : ((List.replicate n true).map V.bl) = List.replicate n (V.bl true) := List.map_replicate
def spLaw (K : PySem.W.Frag) : Sp := fun vs H Q _ => ∃ (a : Addr) (ns : List Int), vs = [.ref a] ∧ SqL K H a (ns.map V.int) ∧ ns.length ≤ 63 ∧ ∀ H', Q (.bl true) H'
section
variable {P : Program} {w : World} {K : PySem.W.Frag} {mg : Str → Option Value} {base : Heap} {A : Ad}
theorem turns3 (n : Int) : (if (if n < 3 then n else 3) > 1 then (if n < 3 then n else 3) else 1) ≤ 3 ∧ 1 ≤ (if (if n < 3 then n else 3) > 1 then (if n < 3 then n else 3) else 1) := by
  constructor <;> (repeat (first | split | omega))
theorem ok_law (T : Txt K mg A) : FnOk P w K mg base CX0 8 A.f_law A.d_law ["script"] (spLaw K) := by
  refine T.F_law.ok sc_law (fun vs H Q E h => ?_) (fun cdv B outer s H vs Q E hr h => ?_)
  · obtain ⟨a, ns, rfl, _⟩ := h
    rfl
  · obtain ⟨a, ns, rfl, hS, hlen, k⟩ := h
    have hr1 : Room 1 _ := hr.mono (by decide)
    refine ⟨_, pss_cons (ps_for PassesOwn.never rfl (pi_range1 rfl T.z_range (pa_cons (pe_callB (call_max2 rfl) (by rfl) T.z_max (by decide +kernel) (pa_cons pe_int (pa_cons (pe_callB (call_min2 rfl) (by rfl) T.z_min (by decide +kernel) (pa_cons pe_int (pa_cons
          (pe_callB call_len_seq (by rfl) T.z_len (by decide +kernel) (pa_cons (pv 0) pa_nil)) pa_nil))) pa_nil))) pa_nil)) (pg_name (i := 1) sc_law.nd rfl (Or.inl rfl))
        (pss_cons (ps_set (i := 2) sc_law.nd rfl (Or.inr rfl) (pe_call (ok_law_pot T) hr1 rfl T.g_law_pot T.F_law_pot.kp T.b_law_pot .nil pass0 (pa_cons (pv 0) (pa_cons (pv 1) pa_nil))))
        (pss_one (ps_if (pt_not (pt_val (pe_callB (cr_all rfl) (by rfl) T.z_all (by decide +kernel) (pa_cons (pe_lc (own := [("turn", 3)]) (g := gName 3) (tt := tYes) rfl sc_law.nd (pi_range1 rfl T.z_range (pa_cons pe_int pa_nil))
            (blkOk_by (N := N_law) (sc := defScope s_law) (by decide +kernel)) (fun _ _ _ _ _ => pg_name (i := 3) sc_law.nd rfl (Or.inl rfl)) (fun _ _ _ _ _ => pts_nil)
            (fun _ _ _ _ _ => pe_call (ok_law_is_right T) hr rfl T.g_law_is_right T.F_law_is_right.kp T.b_law_is_right .nil pass0 (pa_cons (pv 2) pa_nil))) pa_nil)))) (pss_one (ps_ret pe_bl)) pss_nil))))
      (pss_one (ps_ret pe_bl)), ?_⟩
    refine ⟨_, rfl, a, _, rfl, Or.inl hS, _, _, rfl, _, _, rfl, _, rfl, ?_⟩
    have h3 := turns3 ((ns.map V.int).length : Int)
    generalize (if (if ((ns.map V.int).length : Int) < 3 then ((ns.map V.int).length : Int) else 3) > 1 then (if ((ns.map V.int).length : Int) < 3 then ((ns.map V.int).length : Int) else 3) else 1) = j at *
    refine ⟨by omega, by omega, for_range (lo := 0) (n := j.toNat) (fun i σ H' => ∃ v w, σ = [some (.ref a), v, w, none] ∧ Same H H') ⟨none, none, rfl, Same.refl _⟩ ?_ ?_⟩
    · rintro i σ H' hi ⟨v, w', rfl, z⟩
      refine ⟨_, rfl, _, rfl, a, ns, _, rfl, z.seq hS, by omega, by omega, fun p H1 s1 np hP => ?_⟩
      have hHp : H p = none := z.free np
      refine ⟨6, rfl, by decide, by decide, fun D nD => lc_range (lo := 0) (n := 6) (fun i Hh => Same H Hh ∧ Pot Hh p (40 * i) ∧ Hh D = some (.lst (List.replicate i (V.bl true))))
        ⟨z.trans (s1.trans (same_new nD)), (hP.same (same_new nD)), upd_same⟩ ?_ ?_⟩
      · rintro i2 Hh hi2 ⟨zz, hPh, hD⟩
        refine ⟨rfl, yes_of ?_⟩
        refine iteT ?_
        refine ⟨_, rfl, p, 40 * i2, rfl, hPh, by omega, fun H3 hP3 sb => ?_⟩
        obtain ⟨xs, ep⟩ := hP.lst
        have hpD : p ≠ D := ne_of_none ep nD
        have hDH : H D = none := by
          cases e : H D with
          | none => rfl
          | some o =>
            have := s1 _ _ (z _ _ e)
            rw [nD] at this
            cases this
        refine ⟨_, sb _ _ hD hpD.symm, ?_, same_mut (but_same sb zz hHp) hDH, (hP3.upl hpD).mono (by omega), ?_⟩
        · rw [List.length_replicate]
          exact Nat.lt_trans hi2 (by decide)
        · rw [upd_same, List.replicate_succ']
      · rintro Hh ⟨zz, hPh, hD⟩
        refine ⟨D, List.replicate 6 true, rfl, SqL.of (by rw [hD, rep_map]), _, rfl, ?_⟩
        refine iteF' rfl ?_
        exact ⟨_, _, rfl, zz⟩
    · rintro σ H' ⟨v, w', rfl, z⟩
      exact k _
end
theorem all_mk {K : PySem.W.Frag} {h : Heap} {mg : Str → Option Value} (X : K.In h) (G : h.Ns mainGlobals mg)
    {c_Number : Addr}
    {c_Line : Addr}
    {f_is_integer : Addr}
    {oc_is_integer : Value}
    {kV_is_integer : Value}
    {dc_is_integer : Value}
    {pm_is_integer : Value}
    {cd_is_integer : Value}
    {ct_is_integer : Value}
    {od_is_integer : Option Addr}
    {an_is_integer : Option Addr}
    {osl_is_integer : Array (Option Value)}
    {f_shared_divisor : Addr}
    {oc_shared_divisor : Value}
    {kV_shared_divisor : Value}
    {dc_shared_divisor : Value}
    {pm_shared_divisor : Value}
    {cd_shared_divisor : Value}
    {ct_shared_divisor : Value}
    {od_shared_divisor : Option Addr}
    {an_shared_divisor : Option Addr}
    {osl_shared_divisor : Array (Option Value)}
    {f_Number_init : Addr}
    {oc_Number_init : Value}
    {kV_Number_init : Value}
    {dc_Number_init : Value}
    {pm_Number_init : Value}
    {cd_Number_init : Value}
    {ct_Number_init : Value}
    {od_Number_init : Option Addr}
    {an_Number_init : Option Addr}
    {osl_Number_init : Array (Option Value)}
    {T_Number_init : Addr}
    {t_Number_init_0 : Tok}
    {oT_Number_init : Value}
    {dT_Number_init : Option Addr}
    {nT_Number_init : Nat}
    {sT_Number_init : Array (Option Value)}
    {f_Number_top : Addr}
    {p_Number_top : Addr}
    {r_Number_top : List Value}
    {oc_Number_top : Value}
    {kV_Number_top : Value}
    {dc_Number_top : Value}
    {pm_Number_top : Value}
    {cd_Number_top : Value}
    {ct_Number_top : Value}
    {od_Number_top : Option Addr}
    {an_Number_top : Option Addr}
    {osl_Number_top : Array (Option Value)}
    {f_Number_bottom : Addr}
    {p_Number_bottom : Addr}
    {r_Number_bottom : List Value}
    {oc_Number_bottom : Value}
    {kV_Number_bottom : Value}
    {dc_Number_bottom : Value}
    {pm_Number_bottom : Value}
    {cd_Number_bottom : Value}
    {ct_Number_bottom : Value}
    {od_Number_bottom : Option Addr}
    {an_Number_bottom : Option Addr}
    {osl_Number_bottom : Array (Option Value)}
    {f_Number_eq : Addr}
    {oc_Number_eq : Value}
    {kV_Number_eq : Value}
    {dc_Number_eq : Value}
    {pm_Number_eq : Value}
    {cd_Number_eq : Value}
    {ct_Number_eq : Value}
    {od_Number_eq : Option Addr}
    {an_Number_eq : Option Addr}
    {osl_Number_eq : Array (Option Value)}
    {f_Number_add : Addr}
    {oc_Number_add : Value}
    {kV_Number_add : Value}
    {dc_Number_add : Value}
    {pm_Number_add : Value}
    {cd_Number_add : Value}
    {ct_Number_add : Value}
    {od_Number_add : Option Addr}
    {an_Number_add : Option Addr}
    {osl_Number_add : Array (Option Value)}
    {f_Number_sub : Addr}
    {oc_Number_sub : Value}
    {kV_Number_sub : Value}
    {dc_Number_sub : Value}
    {pm_Number_sub : Value}
    {cd_Number_sub : Value}
    {ct_Number_sub : Value}
    {od_Number_sub : Option Addr}
    {an_Number_sub : Option Addr}
    {osl_Number_sub : Array (Option Value)}
    {f_Number_mul : Addr}
    {oc_Number_mul : Value}
    {kV_Number_mul : Value}
    {dc_Number_mul : Value}
    {pm_Number_mul : Value}
    {cd_Number_mul : Value}
    {ct_Number_mul : Value}
    {od_Number_mul : Option Addr}
    {an_Number_mul : Option Addr}
    {osl_Number_mul : Array (Option Value)}
    {f_Line_init : Addr}
    {oc_Line_init : Value}
    {kV_Line_init : Value}
    {dc_Line_init : Value}
    {pm_Line_init : Value}
    {cd_Line_init : Value}
    {ct_Line_init : Value}
    {od_Line_init : Option Addr}
    {an_Line_init : Option Addr}
    {osl_Line_init : Array (Option Value)}
    {f_Line_base : Addr}
    {p_Line_base : Addr}
    {r_Line_base : List Value}
    {oc_Line_base : Value}
    {kV_Line_base : Value}
    {dc_Line_base : Value}
    {pm_Line_base : Value}
    {cd_Line_base : Value}
    {ct_Line_base : Value}
    {od_Line_base : Option Addr}
    {an_Line_base : Option Addr}
    {osl_Line_base : Array (Option Value)}
    {f_Line_slope : Addr}
    {p_Line_slope : Addr}
    {r_Line_slope : List Value}
    {oc_Line_slope : Value}
    {kV_Line_slope : Value}
    {dc_Line_slope : Value}
    {pm_Line_slope : Value}
    {cd_Line_slope : Value}
    {ct_Line_slope : Value}
    {od_Line_slope : Option Addr}
    {an_Line_slope : Option Addr}
    {osl_Line_slope : Array (Option Value)}
    {f_Line_call : Addr}
    {oc_Line_call : Value}
    {kV_Line_call : Value}
    {dc_Line_call : Value}
    {pm_Line_call : Value}
    {cd_Line_call : Value}
    {ct_Line_call : Value}
    {od_Line_call : Option Addr}
    {an_Line_call : Option Addr}
    {osl_Line_call : Array (Option Value)}
    {f_Line_eq : Addr}
    {oc_Line_eq : Value}
    {kV_Line_eq : Value}
    {dc_Line_eq : Value}
    {pm_Line_eq : Value}
    {cd_Line_eq : Value}
    {ct_Line_eq : Value}
    {od_Line_eq : Option Addr}
    {an_Line_eq : Option Addr}
    {osl_Line_eq : Array (Option Value)}
    {f_Line_add : Addr}
    {oc_Line_add : Value}
    {kV_Line_add : Value}
    {dc_Line_add : Value}
    {pm_Line_add : Value}
    {cd_Line_add : Value}
    {ct_Line_add : Value}
    {od_Line_add : Option Addr}
    {an_Line_add : Option Addr}
    {osl_Line_add : Array (Option Value)}
    {f_Line_sub : Addr}
    {oc_Line_sub : Value}
    {kV_Line_sub : Value}
    {dc_Line_sub : Value}
    {pm_Line_sub : Value}
    {cd_Line_sub : Value}
    {ct_Line_sub : Value}
    {od_Line_sub : Option Addr}
    {an_Line_sub : Option Addr}
    {osl_Line_sub : Array (Option Value)}
    {f_law_pot : Addr}
    {oc_law_pot : Value}
    {kV_law_pot : Value}
    {dc_law_pot : Value}
    {pm_law_pot : Value}
    {cd_law_pot : Value}
    {ct_law_pot : Value}
    {od_law_pot : Option Addr}
    {an_law_pot : Option Addr}
    {osl_law_pot : Array (Option Value)}
    {f_law_take : Addr}
    {oc_law_take : Value}
    {kV_law_take : Value}
    {dc_law_take : Value}
    {pm_law_take : Value}
    {cd_law_take : Value}
    {ct_law_take : Value}
    {od_law_take : Option Addr}
    {an_law_take : Option Addr}
    {osl_law_take : Array (Option Value)}
    {f_law_of : Addr}
    {oc_law_of : Value}
    {kV_law_of : Value}
    {dc_law_of : Value}
    {pm_law_of : Value}
    {cd_law_of : Value}
    {ct_law_of : Value}
    {od_law_of : Option Addr}
    {an_law_of : Option Addr}
    {osl_law_of : Array (Option Value)}
    {f_law_least : Addr}
    {oc_law_least : Value}
    {kV_law_least : Value}
    {dc_law_least : Value}
    {pm_law_least : Value}
    {cd_law_least : Value}
    {ct_law_least : Value}
    {od_law_least : Option Addr}
    {an_law_least : Option Addr}
    {osl_law_least : Array (Option Value)}
    {f_law_drawn : Addr}
    {oc_law_drawn : Value}
    {kV_law_drawn : Value}
    {dc_law_drawn : Value}
    {pm_law_drawn : Value}
    {cd_law_drawn : Value}
    {ct_law_drawn : Value}
    {od_law_drawn : Option Addr}
    {an_law_drawn : Option Addr}
    {osl_law_drawn : Array (Option Value)}
    {f_law_made : Addr}
    {oc_law_made : Value}
    {kV_law_made : Value}
    {dc_law_made : Value}
    {pm_law_made : Value}
    {cd_law_made : Value}
    {ct_law_made : Value}
    {od_law_made : Option Addr}
    {an_law_made : Option Addr}
    {osl_law_made : Array (Option Value)}
    {f_law_is_number : Addr}
    {oc_law_is_number : Value}
    {kV_law_is_number : Value}
    {dc_law_is_number : Value}
    {pm_law_is_number : Value}
    {cd_law_is_number : Value}
    {ct_law_is_number : Value}
    {od_law_is_number : Option Addr}
    {an_law_is_number : Option Addr}
    {osl_law_is_number : Array (Option Value)}
    {f_law_value : Addr}
    {oc_law_value : Value}
    {kV_law_value : Value}
    {dc_law_value : Value}
    {pm_law_value : Value}
    {cd_law_value : Value}
    {ct_law_value : Value}
    {od_law_value : Option Addr}
    {an_law_value : Option Addr}
    {osl_law_value : Array (Option Value)}
    {f_law_joint : Addr}
    {oc_law_joint : Value}
    {kV_law_joint : Value}
    {dc_law_joint : Value}
    {pm_law_joint : Value}
    {cd_law_joint : Value}
    {ct_law_joint : Value}
    {od_law_joint : Option Addr}
    {an_law_joint : Option Addr}
    {osl_law_joint : Array (Option Value)}
    {f_law_is_right : Addr}
    {oc_law_is_right : Value}
    {kV_law_is_right : Value}
    {dc_law_is_right : Value}
    {pm_law_is_right : Value}
    {cd_law_is_right : Value}
    {ct_law_is_right : Value}
    {od_law_is_right : Option Addr}
    {an_law_is_right : Option Addr}
    {osl_law_is_right : Array (Option Value)}
    {f_law : Addr}
    {oc_law : Value}
    {kV_law : Value}
    {dc_law : Value}
    {pm_law : Value}
    {cd_law : Value}
    {ct_law : Value}
    {od_law : Option Addr}
    {an_law : Option Addr}
    {osl_law : Array (Option Value)}
    (a_Number : PySem.W.nsIn K mainGlobals "Number" = some (some (.ref c_Number)))
    (pg_Number : PySem.W.plainGet K c_Number Str.empty = true)
    (hd_Number : PySem.W.hasDictIn K c_Number = true)
    (po_Number : PySem.W.plainOver K c_Number = true)
    (sa_Number : PySem.W.findIn K (.ref c_Number) "__setattr__" = some (some (.builtin "object.__setattr__")))
    (mk_Number : PySem.W.makesIn K c_Number = true)
    (kc_Number : PySem.W.keepIn K (.ref c_Number) = true)
    (sf_Number : PySem.W.selfFirst K c_Number = true)
    (ca_Number : PySem.W.findIn K (.ref c_Number) "__class__" = some (some (.builtin "object.__class__")))
    (cm_Number : PySem.W.mroIn K c_Number (.type "object") = some true)
    (n_Number_own_top : PySem.W.findIn K (.ref c_Number) "own_top" = some none)
    (n_Number_own_bottom : PySem.W.findIn K (.ref c_Number) "own_bottom" = some none)
    (a_Line : PySem.W.nsIn K mainGlobals "Line" = some (some (.ref c_Line)))
    (pg_Line : PySem.W.plainGet K c_Line Str.empty = true)
    (hd_Line : PySem.W.hasDictIn K c_Line = true)
    (po_Line : PySem.W.plainOver K c_Line = true)
    (sa_Line : PySem.W.findIn K (.ref c_Line) "__setattr__" = some (some (.builtin "object.__setattr__")))
    (mk_Line : PySem.W.makesIn K c_Line = true)
    (kc_Line : PySem.W.keepIn K (.ref c_Line) = true)
    (sf_Line : PySem.W.selfFirst K c_Line = true)
    (ca_Line : PySem.W.findIn K (.ref c_Line) "__class__" = some (some (.builtin "object.__class__")))
    (cm_Line : PySem.W.mroIn K c_Line (.type "object") = some true)
    (n_Line_own_base : PySem.W.findIn K (.ref c_Line) "own_base" = some none)
    (n_Line_own_slope : PySem.W.findIn K (.ref c_Line) "own_slope" = some none)
    (cn : PySem.W.specialIn K (.builtin "object.__class__") "__get__" = some (some (.builtin "getset_descriptor.__get__")))
    (ct : PySem.W.takesIn K (.builtin "object.__class__") = some true)
    (a_is_integer : PySem.W.nsIn K mainGlobals "is_integer" = some (some (.ref f_is_integer)))
    (l_is_integer : K.lookup f_is_integer = some ⟨oc_is_integer, od_is_integer, .func (PySem.W.fnOf "is_integer" "is_integer" (defArgs s_is_integer) (defBody s_is_integer) (defScope s_is_integer) .none kV_is_integer dc_is_integer pm_is_integer an_is_integer cd_is_integer ct_is_integer), osl_is_integer⟩)
    (hc_is_integer : PySem.W.codeIn K cd_is_integer "is_integer" = true)
    (k_is_integer : PySem.W.keepIn K (.ref f_is_integer) = true)
    (a_shared_divisor : PySem.W.nsIn K mainGlobals "shared_divisor" = some (some (.ref f_shared_divisor)))
    (l_shared_divisor : K.lookup f_shared_divisor = some ⟨oc_shared_divisor, od_shared_divisor, .func (PySem.W.fnOf "shared_divisor" "shared_divisor" (defArgs s_shared_divisor) (defBody s_shared_divisor) (defScope s_shared_divisor) .none kV_shared_divisor dc_shared_divisor pm_shared_divisor an_shared_divisor cd_shared_divisor ct_shared_divisor), osl_shared_divisor⟩)
    (hc_shared_divisor : PySem.W.codeIn K cd_shared_divisor "shared_divisor" = true)
    (k_shared_divisor : PySem.W.keepIn K (.ref f_shared_divisor) = true)
    (a_Number_init : PySem.W.findIn K (.ref c_Number) "__init__" = some (some (.ref f_Number_init)))
    (i_Number_init : PySem.W.isFn K (.ref f_Number_init) = true)
    (l_Number_init : K.lookup f_Number_init = some ⟨oc_Number_init, od_Number_init, .func (PySem.W.fnOf "__init__" "Number.__init__" (defArgs s_Number_init) (defBody s_Number_init) (defScope s_Number_init) (.ref T_Number_init) kV_Number_init dc_Number_init pm_Number_init an_Number_init cd_Number_init ct_Number_init), osl_Number_init⟩)
    (hc_Number_init : PySem.W.codeIn K cd_Number_init "Number.__init__" = true)
    (k_Number_init : PySem.W.keepIn K (.ref f_Number_init) = true)
    (lT_Number_init : K.lookup T_Number_init = some ⟨oT_Number_init, dT_Number_init, .seq #[.int 1 t_Number_init_0] nT_Number_init, sT_Number_init⟩)
    (at_Number_top : PySem.W.findIn K (.ref c_Number) "top" = some (some (.ref p_Number_top)))
    (gt_Number_top : PySem.W.specialIn K (.ref p_Number_top) "__get__" = some (some (.builtin "property.__get__")))
    (tk_Number_top : PySem.W.takesIn K (.ref p_Number_top) = some true)
    (rc_Number_top : PySem.W.recIn K p_Number_top "property" = some (.ref f_Number_top :: r_Number_top))
    (l_Number_top : K.lookup f_Number_top = some ⟨oc_Number_top, od_Number_top, .func (PySem.W.fnOf "top" "Number.top" (defArgs s_Number_top) (defBody s_Number_top) (defScope s_Number_top) .none kV_Number_top dc_Number_top pm_Number_top an_Number_top cd_Number_top ct_Number_top), osl_Number_top⟩)
    (hc_Number_top : PySem.W.codeIn K cd_Number_top "Number.top" = true)
    (k_Number_top : PySem.W.keepIn K (.ref f_Number_top) = true)
    (at_Number_bottom : PySem.W.findIn K (.ref c_Number) "bottom" = some (some (.ref p_Number_bottom)))
    (gt_Number_bottom : PySem.W.specialIn K (.ref p_Number_bottom) "__get__" = some (some (.builtin "property.__get__")))
    (tk_Number_bottom : PySem.W.takesIn K (.ref p_Number_bottom) = some true)
    (rc_Number_bottom : PySem.W.recIn K p_Number_bottom "property" = some (.ref f_Number_bottom :: r_Number_bottom))
    (l_Number_bottom : K.lookup f_Number_bottom = some ⟨oc_Number_bottom, od_Number_bottom, .func (PySem.W.fnOf "bottom" "Number.bottom" (defArgs s_Number_bottom) (defBody s_Number_bottom) (defScope s_Number_bottom) .none kV_Number_bottom dc_Number_bottom pm_Number_bottom an_Number_bottom cd_Number_bottom ct_Number_bottom), osl_Number_bottom⟩)
    (hc_Number_bottom : PySem.W.codeIn K cd_Number_bottom "Number.bottom" = true)
    (k_Number_bottom : PySem.W.keepIn K (.ref f_Number_bottom) = true)
    (a_Number_eq : PySem.W.findIn K (.ref c_Number) "__eq__" = some (some (.ref f_Number_eq)))
    (i_Number_eq : PySem.W.isFn K (.ref f_Number_eq) = true)
    (l_Number_eq : K.lookup f_Number_eq = some ⟨oc_Number_eq, od_Number_eq, .func (PySem.W.fnOf "__eq__" "Number.__eq__" (defArgs s_Number_eq) (defBody s_Number_eq) (defScope s_Number_eq) .none kV_Number_eq dc_Number_eq pm_Number_eq an_Number_eq cd_Number_eq ct_Number_eq), osl_Number_eq⟩)
    (hc_Number_eq : PySem.W.codeIn K cd_Number_eq "Number.__eq__" = true)
    (k_Number_eq : PySem.W.keepIn K (.ref f_Number_eq) = true)
    (a_Number_add : PySem.W.findIn K (.ref c_Number) "__add__" = some (some (.ref f_Number_add)))
    (i_Number_add : PySem.W.isFn K (.ref f_Number_add) = true)
    (l_Number_add : K.lookup f_Number_add = some ⟨oc_Number_add, od_Number_add, .func (PySem.W.fnOf "__add__" "Number.__add__" (defArgs s_Number_add) (defBody s_Number_add) (defScope s_Number_add) .none kV_Number_add dc_Number_add pm_Number_add an_Number_add cd_Number_add ct_Number_add), osl_Number_add⟩)
    (hc_Number_add : PySem.W.codeIn K cd_Number_add "Number.__add__" = true)
    (k_Number_add : PySem.W.keepIn K (.ref f_Number_add) = true)
    (a_Number_sub : PySem.W.findIn K (.ref c_Number) "__sub__" = some (some (.ref f_Number_sub)))
    (i_Number_sub : PySem.W.isFn K (.ref f_Number_sub) = true)
    (l_Number_sub : K.lookup f_Number_sub = some ⟨oc_Number_sub, od_Number_sub, .func (PySem.W.fnOf "__sub__" "Number.__sub__" (defArgs s_Number_sub) (defBody s_Number_sub) (defScope s_Number_sub) .none kV_Number_sub dc_Number_sub pm_Number_sub an_Number_sub cd_Number_sub ct_Number_sub), osl_Number_sub⟩)
    (hc_Number_sub : PySem.W.codeIn K cd_Number_sub "Number.__sub__" = true)
    (k_Number_sub : PySem.W.keepIn K (.ref f_Number_sub) = true)
    (a_Number_mul : PySem.W.findIn K (.ref c_Number) "__mul__" = some (some (.ref f_Number_mul)))
    (i_Number_mul : PySem.W.isFn K (.ref f_Number_mul) = true)
    (l_Number_mul : K.lookup f_Number_mul = some ⟨oc_Number_mul, od_Number_mul, .func (PySem.W.fnOf "__mul__" "Number.__mul__" (defArgs s_Number_mul) (defBody s_Number_mul) (defScope s_Number_mul) .none kV_Number_mul dc_Number_mul pm_Number_mul an_Number_mul cd_Number_mul ct_Number_mul), osl_Number_mul⟩)
    (hc_Number_mul : PySem.W.codeIn K cd_Number_mul "Number.__mul__" = true)
    (k_Number_mul : PySem.W.keepIn K (.ref f_Number_mul) = true)
    (a_Line_init : PySem.W.findIn K (.ref c_Line) "__init__" = some (some (.ref f_Line_init)))
    (i_Line_init : PySem.W.isFn K (.ref f_Line_init) = true)
    (l_Line_init : K.lookup f_Line_init = some ⟨oc_Line_init, od_Line_init, .func (PySem.W.fnOf "__init__" "Line.__init__" (defArgs s_Line_init) (defBody s_Line_init) (defScope s_Line_init) .none kV_Line_init dc_Line_init pm_Line_init an_Line_init cd_Line_init ct_Line_init), osl_Line_init⟩)
    (hc_Line_init : PySem.W.codeIn K cd_Line_init "Line.__init__" = true)
    (k_Line_init : PySem.W.keepIn K (.ref f_Line_init) = true)
    (at_Line_base : PySem.W.findIn K (.ref c_Line) "base" = some (some (.ref p_Line_base)))
    (gt_Line_base : PySem.W.specialIn K (.ref p_Line_base) "__get__" = some (some (.builtin "property.__get__")))
    (tk_Line_base : PySem.W.takesIn K (.ref p_Line_base) = some true)
    (rc_Line_base : PySem.W.recIn K p_Line_base "property" = some (.ref f_Line_base :: r_Line_base))
    (l_Line_base : K.lookup f_Line_base = some ⟨oc_Line_base, od_Line_base, .func (PySem.W.fnOf "base" "Line.base" (defArgs s_Line_base) (defBody s_Line_base) (defScope s_Line_base) .none kV_Line_base dc_Line_base pm_Line_base an_Line_base cd_Line_base ct_Line_base), osl_Line_base⟩)
    (hc_Line_base : PySem.W.codeIn K cd_Line_base "Line.base" = true)
    (k_Line_base : PySem.W.keepIn K (.ref f_Line_base) = true)
    (at_Line_slope : PySem.W.findIn K (.ref c_Line) "slope" = some (some (.ref p_Line_slope)))
    (gt_Line_slope : PySem.W.specialIn K (.ref p_Line_slope) "__get__" = some (some (.builtin "property.__get__")))
    (tk_Line_slope : PySem.W.takesIn K (.ref p_Line_slope) = some true)
    (rc_Line_slope : PySem.W.recIn K p_Line_slope "property" = some (.ref f_Line_slope :: r_Line_slope))
    (l_Line_slope : K.lookup f_Line_slope = some ⟨oc_Line_slope, od_Line_slope, .func (PySem.W.fnOf "slope" "Line.slope" (defArgs s_Line_slope) (defBody s_Line_slope) (defScope s_Line_slope) .none kV_Line_slope dc_Line_slope pm_Line_slope an_Line_slope cd_Line_slope ct_Line_slope), osl_Line_slope⟩)
    (hc_Line_slope : PySem.W.codeIn K cd_Line_slope "Line.slope" = true)
    (k_Line_slope : PySem.W.keepIn K (.ref f_Line_slope) = true)
    (a_Line_call : PySem.W.findIn K (.ref c_Line) "__call__" = some (some (.ref f_Line_call)))
    (i_Line_call : PySem.W.isFn K (.ref f_Line_call) = true)
    (fi_Line_call : PySem.W.fnIn K f_Line_call = true)
    (l_Line_call : K.lookup f_Line_call = some ⟨oc_Line_call, od_Line_call, .func (PySem.W.fnOf "__call__" "Line.__call__" (defArgs s_Line_call) (defBody s_Line_call) (defScope s_Line_call) .none kV_Line_call dc_Line_call pm_Line_call an_Line_call cd_Line_call ct_Line_call), osl_Line_call⟩)
    (hc_Line_call : PySem.W.codeIn K cd_Line_call "Line.__call__" = true)
    (k_Line_call : PySem.W.keepIn K (.ref f_Line_call) = true)
    (a_Line_eq : PySem.W.findIn K (.ref c_Line) "__eq__" = some (some (.ref f_Line_eq)))
    (i_Line_eq : PySem.W.isFn K (.ref f_Line_eq) = true)
    (l_Line_eq : K.lookup f_Line_eq = some ⟨oc_Line_eq, od_Line_eq, .func (PySem.W.fnOf "__eq__" "Line.__eq__" (defArgs s_Line_eq) (defBody s_Line_eq) (defScope s_Line_eq) .none kV_Line_eq dc_Line_eq pm_Line_eq an_Line_eq cd_Line_eq ct_Line_eq), osl_Line_eq⟩)
    (hc_Line_eq : PySem.W.codeIn K cd_Line_eq "Line.__eq__" = true)
    (k_Line_eq : PySem.W.keepIn K (.ref f_Line_eq) = true)
    (a_Line_add : PySem.W.findIn K (.ref c_Line) "__add__" = some (some (.ref f_Line_add)))
    (i_Line_add : PySem.W.isFn K (.ref f_Line_add) = true)
    (l_Line_add : K.lookup f_Line_add = some ⟨oc_Line_add, od_Line_add, .func (PySem.W.fnOf "__add__" "Line.__add__" (defArgs s_Line_add) (defBody s_Line_add) (defScope s_Line_add) .none kV_Line_add dc_Line_add pm_Line_add an_Line_add cd_Line_add ct_Line_add), osl_Line_add⟩)
    (hc_Line_add : PySem.W.codeIn K cd_Line_add "Line.__add__" = true)
    (k_Line_add : PySem.W.keepIn K (.ref f_Line_add) = true)
    (a_Line_sub : PySem.W.findIn K (.ref c_Line) "__sub__" = some (some (.ref f_Line_sub)))
    (i_Line_sub : PySem.W.isFn K (.ref f_Line_sub) = true)
    (l_Line_sub : K.lookup f_Line_sub = some ⟨oc_Line_sub, od_Line_sub, .func (PySem.W.fnOf "__sub__" "Line.__sub__" (defArgs s_Line_sub) (defBody s_Line_sub) (defScope s_Line_sub) .none kV_Line_sub dc_Line_sub pm_Line_sub an_Line_sub cd_Line_sub ct_Line_sub), osl_Line_sub⟩)
    (hc_Line_sub : PySem.W.codeIn K cd_Line_sub "Line.__sub__" = true)
    (k_Line_sub : PySem.W.keepIn K (.ref f_Line_sub) = true)
    (a_law_pot : PySem.W.nsIn K mainGlobals "_law_pot" = some (some (.ref f_law_pot)))
    (l_law_pot : K.lookup f_law_pot = some ⟨oc_law_pot, od_law_pot, .func (PySem.W.fnOf "_law_pot" "_law_pot" (defArgs s_law_pot) (defBody s_law_pot) (defScope s_law_pot) .none kV_law_pot dc_law_pot pm_law_pot an_law_pot cd_law_pot ct_law_pot), osl_law_pot⟩)
    (hc_law_pot : PySem.W.codeIn K cd_law_pot "_law_pot" = true)
    (k_law_pot : PySem.W.keepIn K (.ref f_law_pot) = true)
    (a_law_take : PySem.W.nsIn K mainGlobals "_law_take" = some (some (.ref f_law_take)))
    (l_law_take : K.lookup f_law_take = some ⟨oc_law_take, od_law_take, .func (PySem.W.fnOf "_law_take" "_law_take" (defArgs s_law_take) (defBody s_law_take) (defScope s_law_take) .none kV_law_take dc_law_take pm_law_take an_law_take cd_law_take ct_law_take), osl_law_take⟩)
    (hc_law_take : PySem.W.codeIn K cd_law_take "_law_take" = true)
    (k_law_take : PySem.W.keepIn K (.ref f_law_take) = true)
    (a_law_of : PySem.W.nsIn K mainGlobals "_law_of" = some (some (.ref f_law_of)))
    (l_law_of : K.lookup f_law_of = some ⟨oc_law_of, od_law_of, .func (PySem.W.fnOf "_law_of" "_law_of" (defArgs s_law_of) (defBody s_law_of) (defScope s_law_of) .none kV_law_of dc_law_of pm_law_of an_law_of cd_law_of ct_law_of), osl_law_of⟩)
    (hc_law_of : PySem.W.codeIn K cd_law_of "_law_of" = true)
    (k_law_of : PySem.W.keepIn K (.ref f_law_of) = true)
    (a_law_least : PySem.W.nsIn K mainGlobals "_law_least" = some (some (.ref f_law_least)))
    (l_law_least : K.lookup f_law_least = some ⟨oc_law_least, od_law_least, .func (PySem.W.fnOf "_law_least" "_law_least" (defArgs s_law_least) (defBody s_law_least) (defScope s_law_least) .none kV_law_least dc_law_least pm_law_least an_law_least cd_law_least ct_law_least), osl_law_least⟩)
    (hc_law_least : PySem.W.codeIn K cd_law_least "_law_least" = true)
    (k_law_least : PySem.W.keepIn K (.ref f_law_least) = true)
    (a_law_drawn : PySem.W.nsIn K mainGlobals "_law_drawn" = some (some (.ref f_law_drawn)))
    (l_law_drawn : K.lookup f_law_drawn = some ⟨oc_law_drawn, od_law_drawn, .func (PySem.W.fnOf "_law_drawn" "_law_drawn" (defArgs s_law_drawn) (defBody s_law_drawn) (defScope s_law_drawn) .none kV_law_drawn dc_law_drawn pm_law_drawn an_law_drawn cd_law_drawn ct_law_drawn), osl_law_drawn⟩)
    (hc_law_drawn : PySem.W.codeIn K cd_law_drawn "_law_drawn" = true)
    (k_law_drawn : PySem.W.keepIn K (.ref f_law_drawn) = true)
    (a_law_made : PySem.W.nsIn K mainGlobals "_law_made" = some (some (.ref f_law_made)))
    (l_law_made : K.lookup f_law_made = some ⟨oc_law_made, od_law_made, .func (PySem.W.fnOf "_law_made" "_law_made" (defArgs s_law_made) (defBody s_law_made) (defScope s_law_made) .none kV_law_made dc_law_made pm_law_made an_law_made cd_law_made ct_law_made), osl_law_made⟩)
    (hc_law_made : PySem.W.codeIn K cd_law_made "_law_made" = true)
    (k_law_made : PySem.W.keepIn K (.ref f_law_made) = true)
    (a_law_is_number : PySem.W.nsIn K mainGlobals "_law_is_number" = some (some (.ref f_law_is_number)))
    (l_law_is_number : K.lookup f_law_is_number = some ⟨oc_law_is_number, od_law_is_number, .func (PySem.W.fnOf "_law_is_number" "_law_is_number" (defArgs s_law_is_number) (defBody s_law_is_number) (defScope s_law_is_number) .none kV_law_is_number dc_law_is_number pm_law_is_number an_law_is_number cd_law_is_number ct_law_is_number), osl_law_is_number⟩)
    (hc_law_is_number : PySem.W.codeIn K cd_law_is_number "_law_is_number" = true)
    (k_law_is_number : PySem.W.keepIn K (.ref f_law_is_number) = true)
    (a_law_value : PySem.W.nsIn K mainGlobals "_law_value" = some (some (.ref f_law_value)))
    (l_law_value : K.lookup f_law_value = some ⟨oc_law_value, od_law_value, .func (PySem.W.fnOf "_law_value" "_law_value" (defArgs s_law_value) (defBody s_law_value) (defScope s_law_value) .none kV_law_value dc_law_value pm_law_value an_law_value cd_law_value ct_law_value), osl_law_value⟩)
    (hc_law_value : PySem.W.codeIn K cd_law_value "_law_value" = true)
    (k_law_value : PySem.W.keepIn K (.ref f_law_value) = true)
    (a_law_joint : PySem.W.nsIn K mainGlobals "_law_joint" = some (some (.ref f_law_joint)))
    (l_law_joint : K.lookup f_law_joint = some ⟨oc_law_joint, od_law_joint, .func (PySem.W.fnOf "_law_joint" "_law_joint" (defArgs s_law_joint) (defBody s_law_joint) (defScope s_law_joint) .none kV_law_joint dc_law_joint pm_law_joint an_law_joint cd_law_joint ct_law_joint), osl_law_joint⟩)
    (hc_law_joint : PySem.W.codeIn K cd_law_joint "_law_joint" = true)
    (k_law_joint : PySem.W.keepIn K (.ref f_law_joint) = true)
    (a_law_is_right : PySem.W.nsIn K mainGlobals "_law_is_right" = some (some (.ref f_law_is_right)))
    (l_law_is_right : K.lookup f_law_is_right = some ⟨oc_law_is_right, od_law_is_right, .func (PySem.W.fnOf "_law_is_right" "_law_is_right" (defArgs s_law_is_right) (defBody s_law_is_right) (defScope s_law_is_right) .none kV_law_is_right dc_law_is_right pm_law_is_right an_law_is_right cd_law_is_right ct_law_is_right), osl_law_is_right⟩)
    (hc_law_is_right : PySem.W.codeIn K cd_law_is_right "_law_is_right" = true)
    (k_law_is_right : PySem.W.keepIn K (.ref f_law_is_right) = true)
    (a_law : PySem.W.nsIn K mainGlobals "law" = some (some (.ref f_law)))
    (l_law : K.lookup f_law = some ⟨oc_law, od_law, .func (PySem.W.fnOf "law" "law" (defArgs s_law) (defBody s_law) (defScope s_law) .none kV_law dc_law pm_law an_law cd_law ct_law), osl_law⟩)
    (hc_law : PySem.W.codeIn K cd_law "law" = true)
    (k_law : PySem.W.keepIn K (.ref f_law) = true)
    (z_isinstance : PySem.W.nsIn K mainGlobals "isinstance" = some none)
    (z_int : PySem.W.nsIn K mainGlobals "int" = some none)
    (z_bool : PySem.W.nsIn K mainGlobals "bool" = some none)
    (z_abs : PySem.W.nsIn K mainGlobals "abs" = some none)
    (z_len : PySem.W.nsIn K mainGlobals "len" = some none)
    (z_max : PySem.W.nsIn K mainGlobals "max" = some none)
    (z_min : PySem.W.nsIn K mainGlobals "min" = some none)
    (z_range : PySem.W.nsIn K mainGlobals "range" = some none)
    (z_all : PySem.W.nsIn K mainGlobals "all" = some none)
    (z_any : PySem.W.nsIn K mainGlobals "any" = some none)
    (kit_NumNum : PySem.W.kitOne K (.ref c_Number) (.ref c_Number) = some true)
    (kit_LinLin : PySem.W.kitOne K (.ref c_Line) (.ref c_Line) = some true)
    (kit_NumLin : PySem.W.kitOne K (.ref c_Number) (.ref c_Line) = some false)
    (kit_nonLin : PySem.W.kitOne K (.type "NoneType") (.ref c_Line) = some false)
    (kit_intLin : PySem.W.kitOne K (.type "int") (.ref c_Line) = some false)
    (kit_strLin : PySem.W.kitOne K (.type "str") (.ref c_Line) = some false)
    (kit_tupLin : PySem.W.kitOne K (.type "tuple") (.ref c_Line) = some false)
    (kit_lstLin : PySem.W.kitOne K (.type "list") (.ref c_Line) = some false)
    (kit_blLin : PySem.W.kitOne K (.type "bool") (.ref c_Line) = some false)
    (ne_Line : PySem.W.findIn K (.ref c_Line) "__ne__" = some (some (.builtin "object.__ne__")))
    (sub_NumLin : PySem.W.subIn K (.ref c_Number) (.ref c_Line) = some false)
    (sub_nonLin : PySem.W.subIn K (.type "NoneType") (.ref c_Line) = some false)
    (sub_intLin : PySem.W.subIn K (.type "int") (.ref c_Line) = some false)
    (sub_strLin : PySem.W.subIn K (.type "str") (.ref c_Line) = some false)
    (sub_tupLin : PySem.W.subIn K (.type "tuple") (.ref c_Line) = some false)
    (sub_lstLin : PySem.W.subIn K (.type "list") (.ref c_Line) = some false)
    (sub_blLin : PySem.W.subIn K (.type "bool") (.ref c_Line) = some false)
    : ∃ A : Ad, A.f_law = f_law ∧ Txt K mg A :=
  ⟨⟨c_Number, c_Line, f_is_integer, (PySem.W.fnOf "is_integer" "is_integer" (defArgs s_is_integer) (defBody s_is_integer) (defScope s_is_integer) .none kV_is_integer dc_is_integer pm_is_integer an_is_integer cd_is_integer ct_is_integer), f_shared_divisor, (PySem.W.fnOf "shared_divisor" "shared_divisor" (defArgs s_shared_divisor) (defBody s_shared_divisor) (defScope s_shared_divisor) .none kV_shared_divisor dc_shared_divisor pm_shared_divisor an_shared_divisor cd_shared_divisor ct_shared_divisor), f_Number_init, (PySem.W.fnOf "__init__" "Number.__init__" (defArgs s_Number_init) (defBody s_Number_init) (defScope s_Number_init) (.ref T_Number_init) kV_Number_init dc_Number_init pm_Number_init an_Number_init cd_Number_init ct_Number_init), f_Number_top, (PySem.W.fnOf "top" "Number.top" (defArgs s_Number_top) (defBody s_Number_top) (defScope s_Number_top) .none kV_Number_top dc_Number_top pm_Number_top an_Number_top cd_Number_top ct_Number_top), p_Number_top, f_Number_bottom, (PySem.W.fnOf "bottom" "Number.bottom" (defArgs s_Number_bottom) (defBody s_Number_bottom) (defScope s_Number_bottom) .none kV_Number_bottom dc_Number_bottom pm_Number_bottom an_Number_bottom cd_Number_bottom ct_Number_bottom), p_Number_bottom, f_Number_eq, (PySem.W.fnOf "__eq__" "Number.__eq__" (defArgs s_Number_eq) (defBody s_Number_eq) (defScope s_Number_eq) .none kV_Number_eq dc_Number_eq pm_Number_eq an_Number_eq cd_Number_eq ct_Number_eq), f_Number_add, (PySem.W.fnOf "__add__" "Number.__add__" (defArgs s_Number_add) (defBody s_Number_add) (defScope s_Number_add) .none kV_Number_add dc_Number_add pm_Number_add an_Number_add cd_Number_add ct_Number_add), f_Number_sub, (PySem.W.fnOf "__sub__" "Number.__sub__" (defArgs s_Number_sub) (defBody s_Number_sub) (defScope s_Number_sub) .none kV_Number_sub dc_Number_sub pm_Number_sub an_Number_sub cd_Number_sub ct_Number_sub), f_Number_mul, (PySem.W.fnOf "__mul__" "Number.__mul__" (defArgs s_Number_mul) (defBody s_Number_mul) (defScope s_Number_mul) .none kV_Number_mul dc_Number_mul pm_Number_mul an_Number_mul cd_Number_mul ct_Number_mul), f_Line_init, (PySem.W.fnOf "__init__" "Line.__init__" (defArgs s_Line_init) (defBody s_Line_init) (defScope s_Line_init) .none kV_Line_init dc_Line_init pm_Line_init an_Line_init cd_Line_init ct_Line_init), f_Line_base, (PySem.W.fnOf "base" "Line.base" (defArgs s_Line_base) (defBody s_Line_base) (defScope s_Line_base) .none kV_Line_base dc_Line_base pm_Line_base an_Line_base cd_Line_base ct_Line_base), p_Line_base, f_Line_slope, (PySem.W.fnOf "slope" "Line.slope" (defArgs s_Line_slope) (defBody s_Line_slope) (defScope s_Line_slope) .none kV_Line_slope dc_Line_slope pm_Line_slope an_Line_slope cd_Line_slope ct_Line_slope), p_Line_slope, f_Line_call, (PySem.W.fnOf "__call__" "Line.__call__" (defArgs s_Line_call) (defBody s_Line_call) (defScope s_Line_call) .none kV_Line_call dc_Line_call pm_Line_call an_Line_call cd_Line_call ct_Line_call), f_Line_eq, (PySem.W.fnOf "__eq__" "Line.__eq__" (defArgs s_Line_eq) (defBody s_Line_eq) (defScope s_Line_eq) .none kV_Line_eq dc_Line_eq pm_Line_eq an_Line_eq cd_Line_eq ct_Line_eq), f_Line_add, (PySem.W.fnOf "__add__" "Line.__add__" (defArgs s_Line_add) (defBody s_Line_add) (defScope s_Line_add) .none kV_Line_add dc_Line_add pm_Line_add an_Line_add cd_Line_add ct_Line_add), f_Line_sub, (PySem.W.fnOf "__sub__" "Line.__sub__" (defArgs s_Line_sub) (defBody s_Line_sub) (defScope s_Line_sub) .none kV_Line_sub dc_Line_sub pm_Line_sub an_Line_sub cd_Line_sub ct_Line_sub), f_law_pot, (PySem.W.fnOf "_law_pot" "_law_pot" (defArgs s_law_pot) (defBody s_law_pot) (defScope s_law_pot) .none kV_law_pot dc_law_pot pm_law_pot an_law_pot cd_law_pot ct_law_pot), f_law_take, (PySem.W.fnOf "_law_take" "_law_take" (defArgs s_law_take) (defBody s_law_take) (defScope s_law_take) .none kV_law_take dc_law_take pm_law_take an_law_take cd_law_take ct_law_take), f_law_of, (PySem.W.fnOf "_law_of" "_law_of" (defArgs s_law_of) (defBody s_law_of) (defScope s_law_of) .none kV_law_of dc_law_of pm_law_of an_law_of cd_law_of ct_law_of), f_law_least, (PySem.W.fnOf "_law_least" "_law_least" (defArgs s_law_least) (defBody s_law_least) (defScope s_law_least) .none kV_law_least dc_law_least pm_law_least an_law_least cd_law_least ct_law_least), f_law_drawn, (PySem.W.fnOf "_law_drawn" "_law_drawn" (defArgs s_law_drawn) (defBody s_law_drawn) (defScope s_law_drawn) .none kV_law_drawn dc_law_drawn pm_law_drawn an_law_drawn cd_law_drawn ct_law_drawn), f_law_made, (PySem.W.fnOf "_law_made" "_law_made" (defArgs s_law_made) (defBody s_law_made) (defScope s_law_made) .none kV_law_made dc_law_made pm_law_made an_law_made cd_law_made ct_law_made), f_law_is_number, (PySem.W.fnOf "_law_is_number" "_law_is_number" (defArgs s_law_is_number) (defBody s_law_is_number) (defScope s_law_is_number) .none kV_law_is_number dc_law_is_number pm_law_is_number an_law_is_number cd_law_is_number ct_law_is_number), f_law_value, (PySem.W.fnOf "_law_value" "_law_value" (defArgs s_law_value) (defBody s_law_value) (defScope s_law_value) .none kV_law_value dc_law_value pm_law_value an_law_value cd_law_value ct_law_value), f_law_joint, (PySem.W.fnOf "_law_joint" "_law_joint" (defArgs s_law_joint) (defBody s_law_joint) (defScope s_law_joint) .none kV_law_joint dc_law_joint pm_law_joint an_law_joint cd_law_joint ct_law_joint), f_law_is_right, (PySem.W.fnOf "_law_is_right" "_law_is_right" (defArgs s_law_is_right) (defBody s_law_is_right) (defScope s_law_is_right) .none kV_law_is_right dc_law_is_right pm_law_is_right an_law_is_right cd_law_is_right ct_law_is_right), f_law, (PySem.W.fnOf "law" "law" (defArgs s_law) (defBody s_law) (defScope s_law) .none kV_law dc_law pm_law an_law cd_law ct_law)⟩, rfl, {
    g_Number := PySem.W.mg_of X G a_Number,
    cl_Number := ⟨pg_Number, hd_Number, po_Number, sa_Number⟩,
    M_Number := ⟨mk_Number, a_Number_init, i_Number_init, kc_Number⟩,
    sf_Number := sf_Number,
    ca_Number := ca_Number,
    cm_Number := cm_Number,
    n_Number_own_top := n_Number_own_top,
    n_Number_own_bottom := n_Number_own_bottom,
    g_Line := PySem.W.mg_of X G a_Line,
    cl_Line := ⟨pg_Line, hd_Line, po_Line, sa_Line⟩,
    M_Line := ⟨mk_Line, a_Line_init, i_Line_init, kc_Line⟩,
    sf_Line := sf_Line,
    ca_Line := ca_Line,
    cm_Line := cm_Line,
    n_Line_own_base := n_Line_own_base,
    n_Line_own_slope := n_Line_own_slope,
    cn := cn,
    ct := ct,
    g_is_integer := PySem.W.mg_of X G a_is_integer,
    F_is_integer := fun_mk (st := s_is_integer) l_is_integer hc_is_integer k_is_integer,
    b_is_integer := (fun_mk (st := s_is_integer) l_is_integer hc_is_integer k_is_integer).binds (ps := ["value"]) fun _ _ _ _ _ _ us hl => match us, hl with | [_], _ => rfl,
    g_shared_divisor := PySem.W.mg_of X G a_shared_divisor,
    F_shared_divisor := fun_mk (st := s_shared_divisor) l_shared_divisor hc_shared_divisor k_shared_divisor,
    b_shared_divisor := (fun_mk (st := s_shared_divisor) l_shared_divisor hc_shared_divisor k_shared_divisor).binds (ps := ["one", "other"]) fun _ _ _ _ _ _ us hl => match us, hl with | [_, _], _ => rfl,
    m_Number_init := ⟨a_Number_init, i_Number_init, k_Number_init⟩,
    F_Number_init := ⟨⟨_, _, _, _, _, _, _, _, _, _, rfl, l_Number_init, hc_Number_init, Or.inr ⟨by simp, _, _, [.int 1 t_Number_init_0], _, rfl, lT_Number_init, rfl, .cons ⟨_, rfl⟩ (.nil)⟩, Or.inl rfl⟩, k_Number_init⟩,
    P_Number_top := ⟨at_Number_top, gt_Number_top, tk_Number_top, ⟨_, rc_Number_top⟩⟩,
    F_Number_top := fun_mk (st := s_Number_top) l_Number_top hc_Number_top k_Number_top,
    b_Number_top := (fun_mk (st := s_Number_top) l_Number_top hc_Number_top k_Number_top).binds (ps := ["self"]) fun _ _ _ _ _ _ us hl => match us, hl with | [_], _ => rfl,
    P_Number_bottom := ⟨at_Number_bottom, gt_Number_bottom, tk_Number_bottom, ⟨_, rc_Number_bottom⟩⟩,
    F_Number_bottom := fun_mk (st := s_Number_bottom) l_Number_bottom hc_Number_bottom k_Number_bottom,
    b_Number_bottom := (fun_mk (st := s_Number_bottom) l_Number_bottom hc_Number_bottom k_Number_bottom).binds (ps := ["self"]) fun _ _ _ _ _ _ us hl => match us, hl with | [_], _ => rfl,
    m_Number_eq := ⟨a_Number_eq, i_Number_eq, k_Number_eq⟩,
    F_Number_eq := fun_mk (st := s_Number_eq) l_Number_eq hc_Number_eq k_Number_eq,
    b_Number_eq := (fun_mk (st := s_Number_eq) l_Number_eq hc_Number_eq k_Number_eq).binds (ps := ["self", "other"]) fun _ _ _ _ _ _ us hl => match us, hl with | [_, _], _ => rfl,
    m_Number_add := ⟨a_Number_add, i_Number_add, k_Number_add⟩,
    F_Number_add := fun_mk (st := s_Number_add) l_Number_add hc_Number_add k_Number_add,
    b_Number_add := (fun_mk (st := s_Number_add) l_Number_add hc_Number_add k_Number_add).binds (ps := ["self", "other"]) fun _ _ _ _ _ _ us hl => match us, hl with | [_, _], _ => rfl,
    m_Number_sub := ⟨a_Number_sub, i_Number_sub, k_Number_sub⟩,
    F_Number_sub := fun_mk (st := s_Number_sub) l_Number_sub hc_Number_sub k_Number_sub,
    b_Number_sub := (fun_mk (st := s_Number_sub) l_Number_sub hc_Number_sub k_Number_sub).binds (ps := ["self", "other"]) fun _ _ _ _ _ _ us hl => match us, hl with | [_, _], _ => rfl,
    m_Number_mul := ⟨a_Number_mul, i_Number_mul, k_Number_mul⟩,
    F_Number_mul := fun_mk (st := s_Number_mul) l_Number_mul hc_Number_mul k_Number_mul,
    b_Number_mul := (fun_mk (st := s_Number_mul) l_Number_mul hc_Number_mul k_Number_mul).binds (ps := ["self", "other"]) fun _ _ _ _ _ _ us hl => match us, hl with | [_, _], _ => rfl,
    m_Line_init := ⟨a_Line_init, i_Line_init, k_Line_init⟩,
    F_Line_init := fun_mk (st := s_Line_init) l_Line_init hc_Line_init k_Line_init,
    b_Line_init := (fun_mk (st := s_Line_init) l_Line_init hc_Line_init k_Line_init).binds (ps := ["self", "base", "slope"]) fun _ _ _ _ _ _ us hl => match us, hl with | [_, _, _], _ => rfl,
    P_Line_base := ⟨at_Line_base, gt_Line_base, tk_Line_base, ⟨_, rc_Line_base⟩⟩,
    F_Line_base := fun_mk (st := s_Line_base) l_Line_base hc_Line_base k_Line_base,
    b_Line_base := (fun_mk (st := s_Line_base) l_Line_base hc_Line_base k_Line_base).binds (ps := ["self"]) fun _ _ _ _ _ _ us hl => match us, hl with | [_], _ => rfl,
    P_Line_slope := ⟨at_Line_slope, gt_Line_slope, tk_Line_slope, ⟨_, rc_Line_slope⟩⟩,
    F_Line_slope := fun_mk (st := s_Line_slope) l_Line_slope hc_Line_slope k_Line_slope,
    b_Line_slope := (fun_mk (st := s_Line_slope) l_Line_slope hc_Line_slope k_Line_slope).binds (ps := ["self"]) fun _ _ _ _ _ _ us hl => match us, hl with | [_], _ => rfl,
    m_Line_call := ⟨a_Line_call, i_Line_call, k_Line_call⟩,
    co_Line_call := ⟨a_Line_call, i_Line_call, fi_Line_call⟩,
    F_Line_call := fun_mk (st := s_Line_call) l_Line_call hc_Line_call k_Line_call,
    b_Line_call := (fun_mk (st := s_Line_call) l_Line_call hc_Line_call k_Line_call).binds (ps := ["self", "s"]) fun _ _ _ _ _ _ us hl => match us, hl with | [_, _], _ => rfl,
    m_Line_eq := ⟨a_Line_eq, i_Line_eq, k_Line_eq⟩,
    F_Line_eq := fun_mk (st := s_Line_eq) l_Line_eq hc_Line_eq k_Line_eq,
    b_Line_eq := (fun_mk (st := s_Line_eq) l_Line_eq hc_Line_eq k_Line_eq).binds (ps := ["self", "other"]) fun _ _ _ _ _ _ us hl => match us, hl with | [_, _], _ => rfl,
    m_Line_add := ⟨a_Line_add, i_Line_add, k_Line_add⟩,
    F_Line_add := fun_mk (st := s_Line_add) l_Line_add hc_Line_add k_Line_add,
    b_Line_add := (fun_mk (st := s_Line_add) l_Line_add hc_Line_add k_Line_add).binds (ps := ["self", "other"]) fun _ _ _ _ _ _ us hl => match us, hl with | [_, _], _ => rfl,
    m_Line_sub := ⟨a_Line_sub, i_Line_sub, k_Line_sub⟩,
    F_Line_sub := fun_mk (st := s_Line_sub) l_Line_sub hc_Line_sub k_Line_sub,
    b_Line_sub := (fun_mk (st := s_Line_sub) l_Line_sub hc_Line_sub k_Line_sub).binds (ps := ["self", "other"]) fun _ _ _ _ _ _ us hl => match us, hl with | [_, _], _ => rfl,
    g_law_pot := PySem.W.mg_of X G a_law_pot,
    F_law_pot := fun_mk (st := s_law_pot) l_law_pot hc_law_pot k_law_pot,
    b_law_pot := (fun_mk (st := s_law_pot) l_law_pot hc_law_pot k_law_pot).binds (ps := ["script", "k"]) fun _ _ _ _ _ _ us hl => match us, hl with | [_, _], _ => rfl,
    g_law_take := PySem.W.mg_of X G a_law_take,
    F_law_take := fun_mk (st := s_law_take) l_law_take hc_law_take k_law_take,
    b_law_take := (fun_mk (st := s_law_take) l_law_take hc_law_take k_law_take).binds (ps := ["pot", "upto"]) fun _ _ _ _ _ _ us hl => match us, hl with | [_, _], _ => rfl,
    g_law_of := PySem.W.mg_of X G a_law_of,
    F_law_of := fun_mk (st := s_law_of) l_law_of hc_law_of k_law_of,
    b_law_of := (fun_mk (st := s_law_of) l_law_of hc_law_of k_law_of).binds (ps := ["pot", "some"]) fun _ _ _ _ _ _ us hl => match us, hl with | [_, _], _ => rfl,
    g_law_least := PySem.W.mg_of X G a_law_least,
    F_law_least := fun_mk (st := s_law_least) l_law_least hc_law_least k_law_least,
    b_law_least := (fun_mk (st := s_law_least) l_law_least hc_law_least k_law_least).binds (ps := ["above", "below"]) fun _ _ _ _ _ _ us hl => match us, hl with | [_, _], _ => rfl,
    g_law_drawn := PySem.W.mg_of X G a_law_drawn,
    F_law_drawn := fun_mk (st := s_law_drawn) l_law_drawn hc_law_drawn k_law_drawn,
    b_law_drawn := (fun_mk (st := s_law_drawn) l_law_drawn hc_law_drawn k_law_drawn).binds (ps := ["pot"]) fun _ _ _ _ _ _ us hl => match us, hl with | [_], _ => rfl,
    g_law_made := PySem.W.mg_of X G a_law_made,
    F_law_made := fun_mk (st := s_law_made) l_law_made hc_law_made k_law_made,
    b_law_made := (fun_mk (st := s_law_made) l_law_made hc_law_made k_law_made).binds (ps := ["pair"]) fun _ _ _ _ _ _ us hl => match us, hl with | [_], _ => rfl,
    g_law_is_number := PySem.W.mg_of X G a_law_is_number,
    F_law_is_number := fun_mk (st := s_law_is_number) l_law_is_number hc_law_is_number k_law_is_number,
    b_law_is_number := (fun_mk (st := s_law_is_number) l_law_is_number hc_law_is_number k_law_is_number).binds (ps := ["told", "due"]) fun _ _ _ _ _ _ us hl => match us, hl with | [_, _], _ => rfl,
    g_law_value := PySem.W.mg_of X G a_law_value,
    F_law_value := fun_mk (st := s_law_value) l_law_value hc_law_value k_law_value,
    b_law_value := (fun_mk (st := s_law_value) l_law_value hc_law_value k_law_value).binds (ps := ["a", "b", "s"]) fun _ _ _ _ _ _ us hl => match us, hl with | [_, _, _], _ => rfl,
    g_law_joint := PySem.W.mg_of X G a_law_joint,
    F_law_joint := fun_mk (st := s_law_joint) l_law_joint hc_law_joint k_law_joint,
    b_law_joint := (fun_mk (st := s_law_joint) l_law_joint hc_law_joint k_law_joint).binds (ps := ["one", "two", "sign"]) fun _ _ _ _ _ _ us hl => match us, hl with | [_, _, _], _ => rfl,
    g_law_is_right := PySem.W.mg_of X G a_law_is_right,
    F_law_is_right := fun_mk (st := s_law_is_right) l_law_is_right hc_law_is_right k_law_is_right,
    b_law_is_right := (fun_mk (st := s_law_is_right) l_law_is_right hc_law_is_right k_law_is_right).binds (ps := ["pot"]) fun _ _ _ _ _ _ us hl => match us, hl with | [_], _ => rfl,
    F_law := fun_mk (st := s_law) l_law hc_law k_law,
    b_law := (fun_mk (st := s_law) l_law hc_law k_law).binds (ps := ["script"]) fun _ _ _ _ _ _ us hl => match us, hl with | [_], _ => rfl,
    z_isinstance := PySem.W.mg_none_of X G z_isinstance,
    z_int := PySem.W.mg_none_of X G z_int,
    z_bool := PySem.W.mg_none_of X G z_bool,
    z_abs := PySem.W.mg_none_of X G z_abs,
    z_len := PySem.W.mg_none_of X G z_len,
    z_max := PySem.W.mg_none_of X G z_max,
    z_min := PySem.W.mg_none_of X G z_min,
    z_range := PySem.W.mg_none_of X G z_range,
    z_all := PySem.W.mg_none_of X G z_all,
    z_any := PySem.W.mg_none_of X G z_any,
    kit_NumNum := kit_NumNum,
    kit_LinLin := kit_LinLin,
    kit_NumLin := kit_NumLin,
    kit_nonLin := kit_nonLin,
    kit_intLin := kit_intLin,
    kit_strLin := kit_strLin,
    kit_tupLin := kit_tupLin,
    kit_lstLin := kit_lstLin,
    kit_blLin := kit_blLin,
    ne_Line := ne_Line,
    sub_NumLin := sub_NumLin,
    sub_nonLin := sub_nonLin,
    sub_intLin := sub_intLin,
    sub_strLin := sub_strLin,
    sub_tupLin := sub_tupLin,
    sub_lstLin := sub_lstLin,
    sub_blLin := sub_blLin
  }⟩

abbrev LV : Nat := 12
theorem walk {l : PySem.W.OpenLaw} {q : Program} {loose : List Str} {XP : (Str → Option Value) → Heap → Prop} {YP : World → Heap → Prop} {d : DefRec} {K : Params → PySem.W.Frag} (hn : l.most = some 63) (hdf : d.params.defaults = [])
    (hY : ∀ (w : World) (h : Heap), YP w h → (K w.params).In h)
    (F : ∀ (w : World) (mg : Str → Option Value) (fa : Addr) (h : Heap), (K w.params).In h → h.Ns mainGlobals mg → mg d.name = some (.ref fa) →
      ∃ fd : FuncData, (∀ (s : Shared) (u : Value), BindsTo s fd ⟨[u], []⟩ [("script", u)]) ∧ ∀ base : Heap, (K w.params).In base → base.Ns mainGlobals mg → FnOk l.prog w (K w.params) mg base CX0 LV fa fd ["script"] (spLaw (K w.params))) :
    PySem.W.WalkO q loose XP YP l.row.toRowW d [] (fun f vs => PySem.call f vs) :=
  L2.walk_of (n := 63) (k := LV) (x := "script") (CX := fun _ => CX0) (sp := fun w => spLaw (K w.params)) hn (by decide) hdf ⟨rfl, by decide, by decide⟩ hY F (fun _ _ a ns hl _ hS => ⟨a, ns, rfl, hS, hl, fun _ => rfl⟩) fun _ _ _ _ _ z => z
theorem law_mk {P : Program} {w : World} {K : PySem.W.Frag} {h : Heap} {mg : Str → Option Value} {fa : Addr} (X : K.In h) (G : h.Ns mainGlobals mg) (hfa : mg "law" = some (.ref fa))
    {c_Number : Addr}
    {c_Line : Addr}
    {f_is_integer : Addr}
    {oc_is_integer : Value}
    {kV_is_integer : Value}
    {dc_is_integer : Value}
    {pm_is_integer : Value}
    {cd_is_integer : Value}
    {ct_is_integer : Value}
    {od_is_integer : Option Addr}
    {an_is_integer : Option Addr}
    {osl_is_integer : Array (Option Value)}
    {f_shared_divisor : Addr}
    {oc_shared_divisor : Value}
    {kV_shared_divisor : Value}
    {dc_shared_divisor : Value}
    {pm_shared_divisor : Value}
    {cd_shared_divisor : Value}
    {ct_shared_divisor : Value}
    {od_shared_divisor : Option Addr}
    {an_shared_divisor : Option Addr}
    {osl_shared_divisor : Array (Option Value)}
    {f_Number_init : Addr}
    {oc_Number_init : Value}
    {kV_Number_init : Value}
    {dc_Number_init : Value}
    {pm_Number_init : Value}
    {cd_Number_init : Value}
    {ct_Number_init : Value}
    {od_Number_init : Option Addr}
    {an_Number_init : Option Addr}
    {osl_Number_init : Array (Option Value)}
    {T_Number_init : Addr}
    {t_Number_init_0 : Tok}
    {oT_Number_init : Value}
    {dT_Number_init : Option Addr}
    {nT_Number_init : Nat}
    {sT_Number_init : Array (Option Value)}
    {f_Number_top : Addr}
    {p_Number_top : Addr}
    {r_Number_top : List Value}
    {oc_Number_top : Value}
    {kV_Number_top : Value}
    {dc_Number_top : Value}
    {pm_Number_top : Value}
    {cd_Number_top : Value}
    {ct_Number_top : Value}
    {od_Number_top : Option Addr}
    {an_Number_top : Option Addr}
    {osl_Number_top : Array (Option Value)}
    {f_Number_bottom : Addr}
    {p_Number_bottom : Addr}
    {r_Number_bottom : List Value}
    {oc_Number_bottom : Value}
    {kV_Number_bottom : Value}
    {dc_Number_bottom : Value}
    {pm_Number_bottom : Value}
    {cd_Number_bottom : Value}
    {ct_Number_bottom : Value}
    {od_Number_bottom : Option Addr}
    {an_Number_bottom : Option Addr}
    {osl_Number_bottom : Array (Option Value)}
    {f_Number_eq : Addr}
    {oc_Number_eq : Value}
    {kV_Number_eq : Value}
    {dc_Number_eq : Value}
    {pm_Number_eq : Value}
    {cd_Number_eq : Value}
    {ct_Number_eq : Value}
    {od_Number_eq : Option Addr}
    {an_Number_eq : Option Addr}
    {osl_Number_eq : Array (Option Value)}
    {f_Number_add : Addr}
    {oc_Number_add : Value}
    {kV_Number_add : Value}
    {dc_Number_add : Value}
    {pm_Number_add : Value}
    {cd_Number_add : Value}
    {ct_Number_add : Value}
    {od_Number_add : Option Addr}
    {an_Number_add : Option Addr}
    {osl_Number_add : Array (Option Value)}
    {f_Number_sub : Addr}
    {oc_Number_sub : Value}
    {kV_Number_sub : Value}
    {dc_Number_sub : Value}
    {pm_Number_sub : Value}
    {cd_Number_sub : Value}
    {ct_Number_sub : Value}
    {od_Number_sub : Option Addr}
    {an_Number_sub : Option Addr}
    {osl_Number_sub : Array (Option Value)}
    {f_Number_mul : Addr}
    {oc_Number_mul : Value}
    {kV_Number_mul : Value}
    {dc_Number_mul : Value}
    {pm_Number_mul : Value}
    {cd_Number_mul : Value}
    {ct_Number_mul : Value}
    {od_Number_mul : Option Addr}
    {an_Number_mul : Option Addr}
    {osl_Number_mul : Array (Option Value)}
    {f_Line_init : Addr}
    {oc_Line_init : Value}
    {kV_Line_init : Value}
    {dc_Line_init : Value}
    {pm_Line_init : Value}
    {cd_Line_init : Value}
    {ct_Line_init : Value}
    {od_Line_init : Option Addr}
    {an_Line_init : Option Addr}
    {osl_Line_init : Array (Option Value)}
    {f_Line_base : Addr}
    {p_Line_base : Addr}
    {r_Line_base : List Value}
    {oc_Line_base : Value}
    {kV_Line_base : Value}
    {dc_Line_base : Value}
    {pm_Line_base : Value}
    {cd_Line_base : Value}
    {ct_Line_base : Value}
    {od_Line_base : Option Addr}
    {an_Line_base : Option Addr}
    {osl_Line_base : Array (Option Value)}
    {f_Line_slope : Addr}
    {p_Line_slope : Addr}
    {r_Line_slope : List Value}
    {oc_Line_slope : Value}
    {kV_Line_slope : Value}
    {dc_Line_slope : Value}
    {pm_Line_slope : Value}
    {cd_Line_slope : Value}
    {ct_Line_slope : Value}
    {od_Line_slope : Option Addr}
    {an_Line_slope : Option Addr}
    {osl_Line_slope : Array (Option Value)}
    {f_Line_call : Addr}
    {oc_Line_call : Value}
    {kV_Line_call : Value}
    {dc_Line_call : Value}
    {pm_Line_call : Value}
    {cd_Line_call : Value}
    {ct_Line_call : Value}
    {od_Line_call : Option Addr}
    {an_Line_call : Option Addr}
    {osl_Line_call : Array (Option Value)}
    {f_Line_eq : Addr}
    {oc_Line_eq : Value}
    {kV_Line_eq : Value}
    {dc_Line_eq : Value}
    {pm_Line_eq : Value}
    {cd_Line_eq : Value}
    {ct_Line_eq : Value}
    {od_Line_eq : Option Addr}
    {an_Line_eq : Option Addr}
    {osl_Line_eq : Array (Option Value)}
    {f_Line_add : Addr}
    {oc_Line_add : Value}
    {kV_Line_add : Value}
    {dc_Line_add : Value}
    {pm_Line_add : Value}
    {cd_Line_add : Value}
    {ct_Line_add : Value}
    {od_Line_add : Option Addr}
    {an_Line_add : Option Addr}
    {osl_Line_add : Array (Option Value)}
    {f_Line_sub : Addr}
    {oc_Line_sub : Value}
    {kV_Line_sub : Value}
    {dc_Line_sub : Value}
    {pm_Line_sub : Value}
    {cd_Line_sub : Value}
    {ct_Line_sub : Value}
    {od_Line_sub : Option Addr}
    {an_Line_sub : Option Addr}
    {osl_Line_sub : Array (Option Value)}
    {f_law_pot : Addr}
    {oc_law_pot : Value}
    {kV_law_pot : Value}
    {dc_law_pot : Value}
    {pm_law_pot : Value}
    {cd_law_pot : Value}
    {ct_law_pot : Value}
    {od_law_pot : Option Addr}
    {an_law_pot : Option Addr}
    {osl_law_pot : Array (Option Value)}
    {f_law_take : Addr}
    {oc_law_take : Value}
    {kV_law_take : Value}
    {dc_law_take : Value}
    {pm_law_take : Value}
    {cd_law_take : Value}
    {ct_law_take : Value}
    {od_law_take : Option Addr}
    {an_law_take : Option Addr}
    {osl_law_take : Array (Option Value)}
    {f_law_of : Addr}
    {oc_law_of : Value}
    {kV_law_of : Value}
    {dc_law_of : Value}
    {pm_law_of : Value}
    {cd_law_of : Value}
    {ct_law_of : Value}
    {od_law_of : Option Addr}
    {an_law_of : Option Addr}
    {osl_law_of : Array (Option Value)}
    {f_law_least : Addr}
    {oc_law_least : Value}
    {kV_law_least : Value}
    {dc_law_least : Value}
    {pm_law_least : Value}
    {cd_law_least : Value}
    {ct_law_least : Value}
    {od_law_least : Option Addr}
    {an_law_least : Option Addr}
    {osl_law_least : Array (Option Value)}
    {f_law_drawn : Addr}
    {oc_law_drawn : Value}
    {kV_law_drawn : Value}
    {dc_law_drawn : Value}
    {pm_law_drawn : Value}
    {cd_law_drawn : Value}
    {ct_law_drawn : Value}
    {od_law_drawn : Option Addr}
    {an_law_drawn : Option Addr}
    {osl_law_drawn : Array (Option Value)}
    {f_law_made : Addr}
    {oc_law_made : Value}
    {kV_law_made : Value}
    {dc_law_made : Value}
    {pm_law_made : Value}
    {cd_law_made : Value}
    {ct_law_made : Value}
    {od_law_made : Option Addr}
    {an_law_made : Option Addr}
    {osl_law_made : Array (Option Value)}
    {f_law_is_number : Addr}
    {oc_law_is_number : Value}
    {kV_law_is_number : Value}
    {dc_law_is_number : Value}
    {pm_law_is_number : Value}
    {cd_law_is_number : Value}
    {ct_law_is_number : Value}
    {od_law_is_number : Option Addr}
    {an_law_is_number : Option Addr}
    {osl_law_is_number : Array (Option Value)}
    {f_law_value : Addr}
    {oc_law_value : Value}
    {kV_law_value : Value}
    {dc_law_value : Value}
    {pm_law_value : Value}
    {cd_law_value : Value}
    {ct_law_value : Value}
    {od_law_value : Option Addr}
    {an_law_value : Option Addr}
    {osl_law_value : Array (Option Value)}
    {f_law_joint : Addr}
    {oc_law_joint : Value}
    {kV_law_joint : Value}
    {dc_law_joint : Value}
    {pm_law_joint : Value}
    {cd_law_joint : Value}
    {ct_law_joint : Value}
    {od_law_joint : Option Addr}
    {an_law_joint : Option Addr}
    {osl_law_joint : Array (Option Value)}
    {f_law_is_right : Addr}
    {oc_law_is_right : Value}
    {kV_law_is_right : Value}
    {dc_law_is_right : Value}
    {pm_law_is_right : Value}
    {cd_law_is_right : Value}
    {ct_law_is_right : Value}
    {od_law_is_right : Option Addr}
    {an_law_is_right : Option Addr}
    {osl_law_is_right : Array (Option Value)}
    {f_law : Addr}
    {oc_law : Value}
    {kV_law : Value}
    {dc_law : Value}
    {pm_law : Value}
    {cd_law : Value}
    {ct_law : Value}
    {od_law : Option Addr}
    {an_law : Option Addr}
    {osl_law : Array (Option Value)}
    (a_Number : PySem.W.nsIn K mainGlobals "Number" = some (some (.ref c_Number)))
    (pg_Number : PySem.W.plainGet K c_Number Str.empty = true)
    (hd_Number : PySem.W.hasDictIn K c_Number = true)
    (po_Number : PySem.W.plainOver K c_Number = true)
    (sa_Number : PySem.W.findIn K (.ref c_Number) "__setattr__" = some (some (.builtin "object.__setattr__")))
    (mk_Number : PySem.W.makesIn K c_Number = true)
    (kc_Number : PySem.W.keepIn K (.ref c_Number) = true)
    (sf_Number : PySem.W.selfFirst K c_Number = true)
    (ca_Number : PySem.W.findIn K (.ref c_Number) "__class__" = some (some (.builtin "object.__class__")))
    (cm_Number : PySem.W.mroIn K c_Number (.type "object") = some true)
    (n_Number_own_top : PySem.W.findIn K (.ref c_Number) "own_top" = some none)
    (n_Number_own_bottom : PySem.W.findIn K (.ref c_Number) "own_bottom" = some none)
    (a_Line : PySem.W.nsIn K mainGlobals "Line" = some (some (.ref c_Line)))
    (pg_Line : PySem.W.plainGet K c_Line Str.empty = true)
    (hd_Line : PySem.W.hasDictIn K c_Line = true)
    (po_Line : PySem.W.plainOver K c_Line = true)
    (sa_Line : PySem.W.findIn K (.ref c_Line) "__setattr__" = some (some (.builtin "object.__setattr__")))
    (mk_Line : PySem.W.makesIn K c_Line = true)
    (kc_Line : PySem.W.keepIn K (.ref c_Line) = true)
    (sf_Line : PySem.W.selfFirst K c_Line = true)
    (ca_Line : PySem.W.findIn K (.ref c_Line) "__class__" = some (some (.builtin "object.__class__")))
    (cm_Line : PySem.W.mroIn K c_Line (.type "object") = some true)
    (n_Line_own_base : PySem.W.findIn K (.ref c_Line) "own_base" = some none)
    (n_Line_own_slope : PySem.W.findIn K (.ref c_Line) "own_slope" = some none)
    (cn : PySem.W.specialIn K (.builtin "object.__class__") "__get__" = some (some (.builtin "getset_descriptor.__get__")))
    (ct : PySem.W.takesIn K (.builtin "object.__class__") = some true)
    (a_is_integer : PySem.W.nsIn K mainGlobals "is_integer" = some (some (.ref f_is_integer)))
    (l_is_integer : K.lookup f_is_integer = some ⟨oc_is_integer, od_is_integer, .func (PySem.W.fnOf "is_integer" "is_integer" (defArgs s_is_integer) (defBody s_is_integer) (defScope s_is_integer) .none kV_is_integer dc_is_integer pm_is_integer an_is_integer cd_is_integer ct_is_integer), osl_is_integer⟩)
    (hc_is_integer : PySem.W.codeIn K cd_is_integer "is_integer" = true)
    (k_is_integer : PySem.W.keepIn K (.ref f_is_integer) = true)
    (a_shared_divisor : PySem.W.nsIn K mainGlobals "shared_divisor" = some (some (.ref f_shared_divisor)))
    (l_shared_divisor : K.lookup f_shared_divisor = some ⟨oc_shared_divisor, od_shared_divisor, .func (PySem.W.fnOf "shared_divisor" "shared_divisor" (defArgs s_shared_divisor) (defBody s_shared_divisor) (defScope s_shared_divisor) .none kV_shared_divisor dc_shared_divisor pm_shared_divisor an_shared_divisor cd_shared_divisor ct_shared_divisor), osl_shared_divisor⟩)
    (hc_shared_divisor : PySem.W.codeIn K cd_shared_divisor "shared_divisor" = true)
    (k_shared_divisor : PySem.W.keepIn K (.ref f_shared_divisor) = true)
    (a_Number_init : PySem.W.findIn K (.ref c_Number) "__init__" = some (some (.ref f_Number_init)))
    (i_Number_init : PySem.W.isFn K (.ref f_Number_init) = true)
    (l_Number_init : K.lookup f_Number_init = some ⟨oc_Number_init, od_Number_init, .func (PySem.W.fnOf "__init__" "Number.__init__" (defArgs s_Number_init) (defBody s_Number_init) (defScope s_Number_init) (.ref T_Number_init) kV_Number_init dc_Number_init pm_Number_init an_Number_init cd_Number_init ct_Number_init), osl_Number_init⟩)
    (hc_Number_init : PySem.W.codeIn K cd_Number_init "Number.__init__" = true)
    (k_Number_init : PySem.W.keepIn K (.ref f_Number_init) = true)
    (lT_Number_init : K.lookup T_Number_init = some ⟨oT_Number_init, dT_Number_init, .seq #[.int 1 t_Number_init_0] nT_Number_init, sT_Number_init⟩)
    (at_Number_top : PySem.W.findIn K (.ref c_Number) "top" = some (some (.ref p_Number_top)))
    (gt_Number_top : PySem.W.specialIn K (.ref p_Number_top) "__get__" = some (some (.builtin "property.__get__")))
    (tk_Number_top : PySem.W.takesIn K (.ref p_Number_top) = some true)
    (rc_Number_top : PySem.W.recIn K p_Number_top "property" = some (.ref f_Number_top :: r_Number_top))
    (l_Number_top : K.lookup f_Number_top = some ⟨oc_Number_top, od_Number_top, .func (PySem.W.fnOf "top" "Number.top" (defArgs s_Number_top) (defBody s_Number_top) (defScope s_Number_top) .none kV_Number_top dc_Number_top pm_Number_top an_Number_top cd_Number_top ct_Number_top), osl_Number_top⟩)
    (hc_Number_top : PySem.W.codeIn K cd_Number_top "Number.top" = true)
    (k_Number_top : PySem.W.keepIn K (.ref f_Number_top) = true)
    (at_Number_bottom : PySem.W.findIn K (.ref c_Number) "bottom" = some (some (.ref p_Number_bottom)))
    (gt_Number_bottom : PySem.W.specialIn K (.ref p_Number_bottom) "__get__" = some (some (.builtin "property.__get__")))
    (tk_Number_bottom : PySem.W.takesIn K (.ref p_Number_bottom) = some true)
    (rc_Number_bottom : PySem.W.recIn K p_Number_bottom "property" = some (.ref f_Number_bottom :: r_Number_bottom))
    (l_Number_bottom : K.lookup f_Number_bottom = some ⟨oc_Number_bottom, od_Number_bottom, .func (PySem.W.fnOf "bottom" "Number.bottom" (defArgs s_Number_bottom) (defBody s_Number_bottom) (defScope s_Number_bottom) .none kV_Number_bottom dc_Number_bottom pm_Number_bottom an_Number_bottom cd_Number_bottom ct_Number_bottom), osl_Number_bottom⟩)
    (hc_Number_bottom : PySem.W.codeIn K cd_Number_bottom "Number.bottom" = true)
    (k_Number_bottom : PySem.W.keepIn K (.ref f_Number_bottom) = true)
    (a_Number_eq : PySem.W.findIn K (.ref c_Number) "__eq__" = some (some (.ref f_Number_eq)))
    (i_Number_eq : PySem.W.isFn K (.ref f_Number_eq) = true)
    (l_Number_eq : K.lookup f_Number_eq = some ⟨oc_Number_eq, od_Number_eq, .func (PySem.W.fnOf "__eq__" "Number.__eq__" (defArgs s_Number_eq) (defBody s_Number_eq) (defScope s_Number_eq) .none kV_Number_eq dc_Number_eq pm_Number_eq an_Number_eq cd_Number_eq ct_Number_eq), osl_Number_eq⟩)
    (hc_Number_eq : PySem.W.codeIn K cd_Number_eq "Number.__eq__" = true)
    (k_Number_eq : PySem.W.keepIn K (.ref f_Number_eq) = true)
    (a_Number_add : PySem.W.findIn K (.ref c_Number) "__add__" = some (some (.ref f_Number_add)))
    (i_Number_add : PySem.W.isFn K (.ref f_Number_add) = true)
    (l_Number_add : K.lookup f_Number_add = some ⟨oc_Number_add, od_Number_add, .func (PySem.W.fnOf "__add__" "Number.__add__" (defArgs s_Number_add) (defBody s_Number_add) (defScope s_Number_add) .none kV_Number_add dc_Number_add pm_Number_add an_Number_add cd_Number_add ct_Number_add), osl_Number_add⟩)
    (hc_Number_add : PySem.W.codeIn K cd_Number_add "Number.__add__" = true)
    (k_Number_add : PySem.W.keepIn K (.ref f_Number_add) = true)
    (a_Number_sub : PySem.W.findIn K (.ref c_Number) "__sub__" = some (some (.ref f_Number_sub)))
    (i_Number_sub : PySem.W.isFn K (.ref f_Number_sub) = true)
    (l_Number_sub : K.lookup f_Number_sub = some ⟨oc_Number_sub, od_Number_sub, .func (PySem.W.fnOf "__sub__" "Number.__sub__" (defArgs s_Number_sub) (defBody s_Number_sub) (defScope s_Number_sub) .none kV_Number_sub dc_Number_sub pm_Number_sub an_Number_sub cd_Number_sub ct_Number_sub), osl_Number_sub⟩)
    (hc_Number_sub : PySem.W.codeIn K cd_Number_sub "Number.__sub__" = true)
    (k_Number_sub : PySem.W.keepIn K (.ref f_Number_sub) = true)
    (a_Number_mul : PySem.W.findIn K (.ref c_Number) "__mul__" = some (some (.ref f_Number_mul)))
    (i_Number_mul : PySem.W.isFn K (.ref f_Number_mul) = true)
    (l_Number_mul : K.lookup f_Number_mul = some ⟨oc_Number_mul, od_Number_mul, .func (PySem.W.fnOf "__mul__" "Number.__mul__" (defArgs s_Number_mul) (defBody s_Number_mul) (defScope s_Number_mul) .none kV_Number_mul dc_Number_mul pm_Number_mul an_Number_mul cd_Number_mul ct_Number_mul), osl_Number_mul⟩)
    (hc_Number_mul : PySem.W.codeIn K cd_Number_mul "Number.__mul__" = true)
    (k_Number_mul : PySem.W.keepIn K (.ref f_Number_mul) = true)
    (a_Line_init : PySem.W.findIn K (.ref c_Line) "__init__" = some (some (.ref f_Line_init)))
    (i_Line_init : PySem.W.isFn K (.ref f_Line_init) = true)
    (l_Line_init : K.lookup f_Line_init = some ⟨oc_Line_init, od_Line_init, .func (PySem.W.fnOf "__init__" "Line.__init__" (defArgs s_Line_init) (defBody s_Line_init) (defScope s_Line_init) .none kV_Line_init dc_Line_init pm_Line_init an_Line_init cd_Line_init ct_Line_init), osl_Line_init⟩)
    (hc_Line_init : PySem.W.codeIn K cd_Line_init "Line.__init__" = true)
    (k_Line_init : PySem.W.keepIn K (.ref f_Line_init) = true)
    (at_Line_base : PySem.W.findIn K (.ref c_Line) "base" = some (some (.ref p_Line_base)))
    (gt_Line_base : PySem.W.specialIn K (.ref p_Line_base) "__get__" = some (some (.builtin "property.__get__")))
    (tk_Line_base : PySem.W.takesIn K (.ref p_Line_base) = some true)
    (rc_Line_base : PySem.W.recIn K p_Line_base "property" = some (.ref f_Line_base :: r_Line_base))
    (l_Line_base : K.lookup f_Line_base = some ⟨oc_Line_base, od_Line_base, .func (PySem.W.fnOf "base" "Line.base" (defArgs s_Line_base) (defBody s_Line_base) (defScope s_Line_base) .none kV_Line_base dc_Line_base pm_Line_base an_Line_base cd_Line_base ct_Line_base), osl_Line_base⟩)
    (hc_Line_base : PySem.W.codeIn K cd_Line_base "Line.base" = true)
    (k_Line_base : PySem.W.keepIn K (.ref f_Line_base) = true)
    (at_Line_slope : PySem.W.findIn K (.ref c_Line) "slope" = some (some (.ref p_Line_slope)))
    (gt_Line_slope : PySem.W.specialIn K (.ref p_Line_slope) "__get__" = some (some (.builtin "property.__get__")))
    (tk_Line_slope : PySem.W.takesIn K (.ref p_Line_slope) = some true)
    (rc_Line_slope : PySem.W.recIn K p_Line_slope "property" = some (.ref f_Line_slope :: r_Line_slope))
    (l_Line_slope : K.lookup f_Line_slope = some ⟨oc_Line_slope, od_Line_slope, .func (PySem.W.fnOf "slope" "Line.slope" (defArgs s_Line_slope) (defBody s_Line_slope) (defScope s_Line_slope) .none kV_Line_slope dc_Line_slope pm_Line_slope an_Line_slope cd_Line_slope ct_Line_slope), osl_Line_slope⟩)
    (hc_Line_slope : PySem.W.codeIn K cd_Line_slope "Line.slope" = true)
    (k_Line_slope : PySem.W.keepIn K (.ref f_Line_slope) = true)
    (a_Line_call : PySem.W.findIn K (.ref c_Line) "__call__" = some (some (.ref f_Line_call)))
    (i_Line_call : PySem.W.isFn K (.ref f_Line_call) = true)
    (fi_Line_call : PySem.W.fnIn K f_Line_call = true)
    (l_Line_call : K.lookup f_Line_call = some ⟨oc_Line_call, od_Line_call, .func (PySem.W.fnOf "__call__" "Line.__call__" (defArgs s_Line_call) (defBody s_Line_call) (defScope s_Line_call) .none kV_Line_call dc_Line_call pm_Line_call an_Line_call cd_Line_call ct_Line_call), osl_Line_call⟩)
    (hc_Line_call : PySem.W.codeIn K cd_Line_call "Line.__call__" = true)
    (k_Line_call : PySem.W.keepIn K (.ref f_Line_call) = true)
    (a_Line_eq : PySem.W.findIn K (.ref c_Line) "__eq__" = some (some (.ref f_Line_eq)))
    (i_Line_eq : PySem.W.isFn K (.ref f_Line_eq) = true)
    (l_Line_eq : K.lookup f_Line_eq = some ⟨oc_Line_eq, od_Line_eq, .func (PySem.W.fnOf "__eq__" "Line.__eq__" (defArgs s_Line_eq) (defBody s_Line_eq) (defScope s_Line_eq) .none kV_Line_eq dc_Line_eq pm_Line_eq an_Line_eq cd_Line_eq ct_Line_eq), osl_Line_eq⟩)
    (hc_Line_eq : PySem.W.codeIn K cd_Line_eq "Line.__eq__" = true)
    (k_Line_eq : PySem.W.keepIn K (.ref f_Line_eq) = true)
    (a_Line_add : PySem.W.findIn K (.ref c_Line) "__add__" = some (some (.ref f_Line_add)))
    (i_Line_add : PySem.W.isFn K (.ref f_Line_add) = true)
    (l_Line_add : K.lookup f_Line_add = some ⟨oc_Line_add, od_Line_add, .func (PySem.W.fnOf "__add__" "Line.__add__" (defArgs s_Line_add) (defBody s_Line_add) (defScope s_Line_add) .none kV_Line_add dc_Line_add pm_Line_add an_Line_add cd_Line_add ct_Line_add), osl_Line_add⟩)
    (hc_Line_add : PySem.W.codeIn K cd_Line_add "Line.__add__" = true)
    (k_Line_add : PySem.W.keepIn K (.ref f_Line_add) = true)
    (a_Line_sub : PySem.W.findIn K (.ref c_Line) "__sub__" = some (some (.ref f_Line_sub)))
    (i_Line_sub : PySem.W.isFn K (.ref f_Line_sub) = true)
    (l_Line_sub : K.lookup f_Line_sub = some ⟨oc_Line_sub, od_Line_sub, .func (PySem.W.fnOf "__sub__" "Line.__sub__" (defArgs s_Line_sub) (defBody s_Line_sub) (defScope s_Line_sub) .none kV_Line_sub dc_Line_sub pm_Line_sub an_Line_sub cd_Line_sub ct_Line_sub), osl_Line_sub⟩)
    (hc_Line_sub : PySem.W.codeIn K cd_Line_sub "Line.__sub__" = true)
    (k_Line_sub : PySem.W.keepIn K (.ref f_Line_sub) = true)
    (a_law_pot : PySem.W.nsIn K mainGlobals "_law_pot" = some (some (.ref f_law_pot)))
    (l_law_pot : K.lookup f_law_pot = some ⟨oc_law_pot, od_law_pot, .func (PySem.W.fnOf "_law_pot" "_law_pot" (defArgs s_law_pot) (defBody s_law_pot) (defScope s_law_pot) .none kV_law_pot dc_law_pot pm_law_pot an_law_pot cd_law_pot ct_law_pot), osl_law_pot⟩)
    (hc_law_pot : PySem.W.codeIn K cd_law_pot "_law_pot" = true)
    (k_law_pot : PySem.W.keepIn K (.ref f_law_pot) = true)
    (a_law_take : PySem.W.nsIn K mainGlobals "_law_take" = some (some (.ref f_law_take)))
    (l_law_take : K.lookup f_law_take = some ⟨oc_law_take, od_law_take, .func (PySem.W.fnOf "_law_take" "_law_take" (defArgs s_law_take) (defBody s_law_take) (defScope s_law_take) .none kV_law_take dc_law_take pm_law_take an_law_take cd_law_take ct_law_take), osl_law_take⟩)
    (hc_law_take : PySem.W.codeIn K cd_law_take "_law_take" = true)
    (k_law_take : PySem.W.keepIn K (.ref f_law_take) = true)
    (a_law_of : PySem.W.nsIn K mainGlobals "_law_of" = some (some (.ref f_law_of)))
    (l_law_of : K.lookup f_law_of = some ⟨oc_law_of, od_law_of, .func (PySem.W.fnOf "_law_of" "_law_of" (defArgs s_law_of) (defBody s_law_of) (defScope s_law_of) .none kV_law_of dc_law_of pm_law_of an_law_of cd_law_of ct_law_of), osl_law_of⟩)
    (hc_law_of : PySem.W.codeIn K cd_law_of "_law_of" = true)
    (k_law_of : PySem.W.keepIn K (.ref f_law_of) = true)
    (a_law_least : PySem.W.nsIn K mainGlobals "_law_least" = some (some (.ref f_law_least)))
    (l_law_least : K.lookup f_law_least = some ⟨oc_law_least, od_law_least, .func (PySem.W.fnOf "_law_least" "_law_least" (defArgs s_law_least) (defBody s_law_least) (defScope s_law_least) .none kV_law_least dc_law_least pm_law_least an_law_least cd_law_least ct_law_least), osl_law_least⟩)
    (hc_law_least : PySem.W.codeIn K cd_law_least "_law_least" = true)
    (k_law_least : PySem.W.keepIn K (.ref f_law_least) = true)
    (a_law_drawn : PySem.W.nsIn K mainGlobals "_law_drawn" = some (some (.ref f_law_drawn)))
    (l_law_drawn : K.lookup f_law_drawn = some ⟨oc_law_drawn, od_law_drawn, .func (PySem.W.fnOf "_law_drawn" "_law_drawn" (defArgs s_law_drawn) (defBody s_law_drawn) (defScope s_law_drawn) .none kV_law_drawn dc_law_drawn pm_law_drawn an_law_drawn cd_law_drawn ct_law_drawn), osl_law_drawn⟩)
    (hc_law_drawn : PySem.W.codeIn K cd_law_drawn "_law_drawn" = true)
    (k_law_drawn : PySem.W.keepIn K (.ref f_law_drawn) = true)
    (a_law_made : PySem.W.nsIn K mainGlobals "_law_made" = some (some (.ref f_law_made)))
    (l_law_made : K.lookup f_law_made = some ⟨oc_law_made, od_law_made, .func (PySem.W.fnOf "_law_made" "_law_made" (defArgs s_law_made) (defBody s_law_made) (defScope s_law_made) .none kV_law_made dc_law_made pm_law_made an_law_made cd_law_made ct_law_made), osl_law_made⟩)
    (hc_law_made : PySem.W.codeIn K cd_law_made "_law_made" = true)
    (k_law_made : PySem.W.keepIn K (.ref f_law_made) = true)
    (a_law_is_number : PySem.W.nsIn K mainGlobals "_law_is_number" = some (some (.ref f_law_is_number)))
    (l_law_is_number : K.lookup f_law_is_number = some ⟨oc_law_is_number, od_law_is_number, .func (PySem.W.fnOf "_law_is_number" "_law_is_number" (defArgs s_law_is_number) (defBody s_law_is_number) (defScope s_law_is_number) .none kV_law_is_number dc_law_is_number pm_law_is_number an_law_is_number cd_law_is_number ct_law_is_number), osl_law_is_number⟩)
    (hc_law_is_number : PySem.W.codeIn K cd_law_is_number "_law_is_number" = true)
    (k_law_is_number : PySem.W.keepIn K (.ref f_law_is_number) = true)
    (a_law_value : PySem.W.nsIn K mainGlobals "_law_value" = some (some (.ref f_law_value)))
    (l_law_value : K.lookup f_law_value = some ⟨oc_law_value, od_law_value, .func (PySem.W.fnOf "_law_value" "_law_value" (defArgs s_law_value) (defBody s_law_value) (defScope s_law_value) .none kV_law_value dc_law_value pm_law_value an_law_value cd_law_value ct_law_value), osl_law_value⟩)
    (hc_law_value : PySem.W.codeIn K cd_law_value "_law_value" = true)
    (k_law_value : PySem.W.keepIn K (.ref f_law_value) = true)
    (a_law_joint : PySem.W.nsIn K mainGlobals "_law_joint" = some (some (.ref f_law_joint)))
    (l_law_joint : K.lookup f_law_joint = some ⟨oc_law_joint, od_law_joint, .func (PySem.W.fnOf "_law_joint" "_law_joint" (defArgs s_law_joint) (defBody s_law_joint) (defScope s_law_joint) .none kV_law_joint dc_law_joint pm_law_joint an_law_joint cd_law_joint ct_law_joint), osl_law_joint⟩)
    (hc_law_joint : PySem.W.codeIn K cd_law_joint "_law_joint" = true)
    (k_law_joint : PySem.W.keepIn K (.ref f_law_joint) = true)
    (a_law_is_right : PySem.W.nsIn K mainGlobals "_law_is_right" = some (some (.ref f_law_is_right)))
    (l_law_is_right : K.lookup f_law_is_right = some ⟨oc_law_is_right, od_law_is_right, .func (PySem.W.fnOf "_law_is_right" "_law_is_right" (defArgs s_law_is_right) (defBody s_law_is_right) (defScope s_law_is_right) .none kV_law_is_right dc_law_is_right pm_law_is_right an_law_is_right cd_law_is_right ct_law_is_right), osl_law_is_right⟩)
    (hc_law_is_right : PySem.W.codeIn K cd_law_is_right "_law_is_right" = true)
    (k_law_is_right : PySem.W.keepIn K (.ref f_law_is_right) = true)
    (a_law : PySem.W.nsIn K mainGlobals "law" = some (some (.ref f_law)))
    (l_law : K.lookup f_law = some ⟨oc_law, od_law, .func (PySem.W.fnOf "law" "law" (defArgs s_law) (defBody s_law) (defScope s_law) .none kV_law dc_law pm_law an_law cd_law ct_law), osl_law⟩)
    (hc_law : PySem.W.codeIn K cd_law "law" = true)
    (k_law : PySem.W.keepIn K (.ref f_law) = true)
    (z_isinstance : PySem.W.nsIn K mainGlobals "isinstance" = some none)
    (z_int : PySem.W.nsIn K mainGlobals "int" = some none)
    (z_bool : PySem.W.nsIn K mainGlobals "bool" = some none)
    (z_abs : PySem.W.nsIn K mainGlobals "abs" = some none)
    (z_len : PySem.W.nsIn K mainGlobals "len" = some none)
    (z_max : PySem.W.nsIn K mainGlobals "max" = some none)
    (z_min : PySem.W.nsIn K mainGlobals "min" = some none)
    (z_range : PySem.W.nsIn K mainGlobals "range" = some none)
    (z_all : PySem.W.nsIn K mainGlobals "all" = some none)
    (z_any : PySem.W.nsIn K mainGlobals "any" = some none)
    (kit_NumNum : PySem.W.kitOne K (.ref c_Number) (.ref c_Number) = some true)
    (kit_LinLin : PySem.W.kitOne K (.ref c_Line) (.ref c_Line) = some true)
    (kit_NumLin : PySem.W.kitOne K (.ref c_Number) (.ref c_Line) = some false)
    (kit_nonLin : PySem.W.kitOne K (.type "NoneType") (.ref c_Line) = some false)
    (kit_intLin : PySem.W.kitOne K (.type "int") (.ref c_Line) = some false)
    (kit_strLin : PySem.W.kitOne K (.type "str") (.ref c_Line) = some false)
    (kit_tupLin : PySem.W.kitOne K (.type "tuple") (.ref c_Line) = some false)
    (kit_lstLin : PySem.W.kitOne K (.type "list") (.ref c_Line) = some false)
    (kit_blLin : PySem.W.kitOne K (.type "bool") (.ref c_Line) = some false)
    (ne_Line : PySem.W.findIn K (.ref c_Line) "__ne__" = some (some (.builtin "object.__ne__")))
    (sub_NumLin : PySem.W.subIn K (.ref c_Number) (.ref c_Line) = some false)
    (sub_nonLin : PySem.W.subIn K (.type "NoneType") (.ref c_Line) = some false)
    (sub_intLin : PySem.W.subIn K (.type "int") (.ref c_Line) = some false)
    (sub_strLin : PySem.W.subIn K (.type "str") (.ref c_Line) = some false)
    (sub_tupLin : PySem.W.subIn K (.type "tuple") (.ref c_Line) = some false)
    (sub_lstLin : PySem.W.subIn K (.type "list") (.ref c_Line) = some false)
    (sub_blLin : PySem.W.subIn K (.type "bool") (.ref c_Line) = some false)
    : ∃ fd : FuncData, (∀ (s : Shared) (v : Value), BindsTo s fd ⟨[v], []⟩ [("script", v)]) ∧ ∀ base : Heap, K.In base → base.Ns mainGlobals mg → FnOk P w K mg base CX0 LV fa fd ["script"] (spLaw K) := by
  obtain ⟨A, eA, T⟩ := all_mk X G a_Number pg_Number hd_Number po_Number sa_Number mk_Number kc_Number sf_Number ca_Number cm_Number n_Number_own_top n_Number_own_bottom a_Line pg_Line hd_Line po_Line sa_Line mk_Line kc_Line sf_Line ca_Line cm_Line n_Line_own_base n_Line_own_slope cn ct a_is_integer l_is_integer hc_is_integer k_is_integer a_shared_divisor l_shared_divisor hc_shared_divisor k_shared_divisor a_Number_init i_Number_init l_Number_init hc_Number_init k_Number_init lT_Number_init at_Number_top gt_Number_top tk_Number_top rc_Number_top l_Number_top hc_Number_top k_Number_top at_Number_bottom gt_Number_bottom tk_Number_bottom rc_Number_bottom l_Number_bottom hc_Number_bottom k_Number_bottom a_Number_eq i_Number_eq l_Number_eq hc_Number_eq k_Number_eq a_Number_add i_Number_add l_Number_add hc_Number_add k_Number_add a_Number_sub i_Number_sub l_Number_sub hc_Number_sub k_Number_sub a_Number_mul i_Number_mul l_Number_mul hc_Number_mul k_Number_mul a_Line_init i_Line_init l_Line_init hc_Line_init k_Line_init at_Line_base gt_Line_base tk_Line_base rc_Line_base l_Line_base hc_Line_base k_Line_base at_Line_slope gt_Line_slope tk_Line_slope rc_Line_slope l_Line_slope hc_Line_slope k_Line_slope a_Line_call i_Line_call fi_Line_call l_Line_call hc_Line_call k_Line_call a_Line_eq i_Line_eq l_Line_eq hc_Line_eq k_Line_eq a_Line_add i_Line_add l_Line_add hc_Line_add k_Line_add a_Line_sub i_Line_sub l_Line_sub hc_Line_sub k_Line_sub a_law_pot l_law_pot hc_law_pot k_law_pot a_law_take l_law_take hc_law_take k_law_take a_law_of l_law_of hc_law_of k_law_of a_law_least l_law_least hc_law_least k_law_least a_law_drawn l_law_drawn hc_law_drawn k_law_drawn a_law_made l_law_made hc_law_made k_law_made a_law_is_number l_law_is_number hc_law_is_number k_law_is_number a_law_value l_law_value hc_law_value k_law_value a_law_joint l_law_joint hc_law_joint k_law_joint a_law_is_right l_law_is_right hc_law_is_right k_law_is_right a_law l_law hc_law k_law z_isinstance z_int z_bool z_abs z_len z_max z_min z_range z_all z_any kit_NumNum kit_LinLin kit_NumLin kit_nonLin kit_intLin kit_strLin kit_tupLin kit_lstLin kit_blLin ne_Line sub_NumLin sub_nonLin sub_intLin sub_strLin sub_tupLin sub_lstLin sub_blLin
  have e := hfa.symm.trans (PySem.W.mg_of X G a_law)
  cases e
  refine ⟨A.d_law, fun s v => ?_, fun base _ _ => eA ▸ (ok_law T).mono (by decide)⟩
  obtain ⟨oc, od, kV, doc, pm, an, cdv, ct, osl, hfd, _, _⟩ := T.F_law.ex
  rw [hfd]
  exact .of_eq rfl
end Q
open PySem PySem.W PyProof.Rows
set_option maxRecDepth 100000 in
set_option maxHeartbeats 0 in
theorem PySem.Challenge.cw_whatspeed_k05_lines_holds : PySem.Challenge.rw_whatspeed_k05_lines.Holds := by
  w_on; o_law; k_head; (case hw => w_witness2)
  k_fill
  refine Q.walk (l := PySem.Challenge.rw_whatspeed_k05_lines) rfl rfl (fun w h Y => PySem.W.kIn_of Y) ?F
  case F =>
    intro w mg fa h KX G hmg
    refine' Q.law_mk KX G hmg ?a_Number ?pg_Number ?hd_Number ?po_Number ?sa_Number ?mk_Number ?kc_Number ?sf_Number ?ca_Number ?cm_Number ?n_Number_own_top ?n_Number_own_bottom ?a_Line ?pg_Line ?hd_Line ?po_Line ?sa_Line ?mk_Line ?kc_Line ?sf_Line ?ca_Line ?cm_Line ?n_Line_own_base ?n_Line_own_slope ?cn ?ct ?a_is_integer ?l_is_integer ?hc_is_integer ?k_is_integer ?a_shared_divisor ?l_shared_divisor ?hc_shared_divisor ?k_shared_divisor ?a_Number_init ?i_Number_init ?l_Number_init ?hc_Number_init ?k_Number_init ?lT_Number_init ?at_Number_top ?gt_Number_top ?tk_Number_top ?rc_Number_top ?l_Number_top ?hc_Number_top ?k_Number_top ?at_Number_bottom ?gt_Number_bottom ?tk_Number_bottom ?rc_Number_bottom ?l_Number_bottom ?hc_Number_bottom ?k_Number_bottom ?a_Number_eq ?i_Number_eq ?l_Number_eq ?hc_Number_eq ?k_Number_eq ?a_Number_add ?i_Number_add ?l_Number_add ?hc_Number_add ?k_Number_add ?a_Number_sub ?i_Number_sub ?l_Number_sub ?hc_Number_sub ?k_Number_sub ?a_Number_mul ?i_Number_mul ?l_Number_mul ?hc_Number_mul ?k_Number_mul ?a_Line_init ?i_Line_init ?l_Line_init ?hc_Line_init ?k_Line_init ?at_Line_base ?gt_Line_base ?tk_Line_base ?rc_Line_base ?l_Line_base ?hc_Line_base ?k_Line_base ?at_Line_slope ?gt_Line_slope ?tk_Line_slope ?rc_Line_slope ?l_Line_slope ?hc_Line_slope ?k_Line_slope ?a_Line_call ?i_Line_call ?fi_Line_call ?l_Line_call ?hc_Line_call ?k_Line_call ?a_Line_eq ?i_Line_eq ?l_Line_eq ?hc_Line_eq ?k_Line_eq ?a_Line_add ?i_Line_add ?l_Line_add ?hc_Line_add ?k_Line_add ?a_Line_sub ?i_Line_sub ?l_Line_sub ?hc_Line_sub ?k_Line_sub ?a_law_pot ?l_law_pot ?hc_law_pot ?k_law_pot ?a_law_take ?l_law_take ?hc_law_take ?k_law_take ?a_law_of ?l_law_of ?hc_law_of ?k_law_of ?a_law_least ?l_law_least ?hc_law_least ?k_law_least ?a_law_drawn ?l_law_drawn ?hc_law_drawn ?k_law_drawn ?a_law_made ?l_law_made ?hc_law_made ?k_law_made ?a_law_is_number ?l_law_is_number ?hc_law_is_number ?k_law_is_number ?a_law_value ?l_law_value ?hc_law_value ?k_law_value ?a_law_joint ?l_law_joint ?hc_law_joint ?k_law_joint ?a_law_is_right ?l_law_is_right ?hc_law_is_right ?k_law_is_right ?a_law ?l_law ?hc_law ?k_law ?z_isinstance ?z_int ?z_bool ?z_abs ?z_len ?z_max ?z_min ?z_range ?z_all ?z_any ?kit_NumNum ?kit_LinLin ?kit_NumLin ?kit_nonLin ?kit_intLin ?kit_strLin ?kit_tupLin ?kit_lstLin ?kit_blLin ?ne_Line ?sub_NumLin ?sub_nonLin ?sub_intLin ?sub_strLin ?sub_tupLin ?sub_lstLin ?sub_blLin
    (case a_Number => k_is)
    (case pg_Number => k_is)
    (case hd_Number => k_is)
    (case po_Number => k_is)
    (case sa_Number => k_is)
    (case mk_Number => k_is)
    (case kc_Number => k_is)
    (case sf_Number => k_is)
    (case ca_Number => k_is)
    (case cm_Number => k_is)
    (case n_Number_own_top => k_is)
    (case n_Number_own_bottom => k_is)
    (case a_Line => k_is)
    (case pg_Line => k_is)
    (case hd_Line => k_is)
    (case po_Line => k_is)
    (case sa_Line => k_is)
    (case mk_Line => k_is)
    (case kc_Line => k_is)
    (case sf_Line => k_is)
    (case ca_Line => k_is)
    (case cm_Line => k_is)
    (case n_Line_own_base => k_is)
    (case n_Line_own_slope => k_is)
    (case cn => k_is)
    (case ct => k_is)
    (case a_is_integer => k_is)
    (case l_is_integer => k_is)
    (case hc_is_integer => k_is)
    (case k_is_integer => k_is)
    (case a_shared_divisor => k_is)
    (case l_shared_divisor => k_is)
    (case hc_shared_divisor => k_is)
    (case k_shared_divisor => k_is)
    (case a_Number_init => k_is)
    (case i_Number_init => k_is)
    (case l_Number_init => k_is)
    (case hc_Number_init => k_is)
    (case k_Number_init => k_is)
    (case lT_Number_init => k_is)
    (case at_Number_top => k_is)
    (case gt_Number_top => k_is)
    (case tk_Number_top => k_is)
    (case rc_Number_top => k_is)
    (case l_Number_top => k_is)
    (case hc_Number_top => k_is)
    (case k_Number_top => k_is)
    (case at_Number_bottom => k_is)
    (case gt_Number_bottom => k_is)
    (case tk_Number_bottom => k_is)
    (case rc_Number_bottom => k_is)
    (case l_Number_bottom => k_is)
    (case hc_Number_bottom => k_is)
    (case k_Number_bottom => k_is)
    (case a_Number_eq => k_is)
    (case i_Number_eq => k_is)
    (case l_Number_eq => k_is)
    (case hc_Number_eq => k_is)
    (case k_Number_eq => k_is)
    (case a_Number_add => k_is)
    (case i_Number_add => k_is)
    (case l_Number_add => k_is)
    (case hc_Number_add => k_is)
    (case k_Number_add => k_is)
    (case a_Number_sub => k_is)
    (case i_Number_sub => k_is)
    (case l_Number_sub => k_is)
    (case hc_Number_sub => k_is)
    (case k_Number_sub => k_is)
    (case a_Number_mul => k_is)
    (case i_Number_mul => k_is)
    (case l_Number_mul => k_is)
    (case hc_Number_mul => k_is)
    (case k_Number_mul => k_is)
    (case a_Line_init => k_is)
    (case i_Line_init => k_is)
    (case l_Line_init => k_is)
    (case hc_Line_init => k_is)
    (case k_Line_init => k_is)
    (case at_Line_base => k_is)
    (case gt_Line_base => k_is)
    (case tk_Line_base => k_is)
    (case rc_Line_base => k_is)
    (case l_Line_base => k_is)
    (case hc_Line_base => k_is)
    (case k_Line_base => k_is)
    (case at_Line_slope => k_is)
    (case gt_Line_slope => k_is)
    (case tk_Line_slope => k_is)
    (case rc_Line_slope => k_is)
    (case l_Line_slope => k_is)
    (case hc_Line_slope => k_is)
    (case k_Line_slope => k_is)
    (case a_Line_call => k_is)
    (case i_Line_call => k_is)
    (case fi_Line_call => k_is)
    (case l_Line_call => k_is)
    (case hc_Line_call => k_is)
    (case k_Line_call => k_is)
    (case a_Line_eq => k_is)
    (case i_Line_eq => k_is)
    (case l_Line_eq => k_is)
    (case hc_Line_eq => k_is)
    (case k_Line_eq => k_is)
    (case a_Line_add => k_is)
    (case i_Line_add => k_is)
    (case l_Line_add => k_is)
    (case hc_Line_add => k_is)
    (case k_Line_add => k_is)
    (case a_Line_sub => k_is)
    (case i_Line_sub => k_is)
    (case l_Line_sub => k_is)
    (case hc_Line_sub => k_is)
    (case k_Line_sub => k_is)
    (case a_law_pot => k_is)
    (case l_law_pot => k_is)
    (case hc_law_pot => k_is)
    (case k_law_pot => k_is)
    (case a_law_take => k_is)
    (case l_law_take => k_is)
    (case hc_law_take => k_is)
    (case k_law_take => k_is)
    (case a_law_of => k_is)
    (case l_law_of => k_is)
    (case hc_law_of => k_is)
    (case k_law_of => k_is)
    (case a_law_least => k_is)
    (case l_law_least => k_is)
    (case hc_law_least => k_is)
    (case k_law_least => k_is)
    (case a_law_drawn => k_is)
    (case l_law_drawn => k_is)
    (case hc_law_drawn => k_is)
    (case k_law_drawn => k_is)
    (case a_law_made => k_is)
    (case l_law_made => k_is)
    (case hc_law_made => k_is)
    (case k_law_made => k_is)
    (case a_law_is_number => k_is)
    (case l_law_is_number => k_is)
    (case hc_law_is_number => k_is)
    (case k_law_is_number => k_is)
    (case a_law_value => k_is)
    (case l_law_value => k_is)
    (case hc_law_value => k_is)
    (case k_law_value => k_is)
    (case a_law_joint => k_is)
    (case l_law_joint => k_is)
    (case hc_law_joint => k_is)
    (case k_law_joint => k_is)
    (case a_law_is_right => k_is)
    (case l_law_is_right => k_is)
    (case hc_law_is_right => k_is)
    (case k_law_is_right => k_is)
    (case a_law => k_is)
    (case l_law => k_is)
    (case hc_law => k_is)
    (case k_law => k_is)
    (case z_isinstance => k_is)
    (case z_int => k_is)
    (case z_bool => k_is)
    (case z_abs => k_is)
    (case z_len => k_is)
    (case z_max => k_is)
    (case z_min => k_is)
    (case z_range => k_is)
    (case z_all => k_is)
    (case z_any => k_is)
    (case kit_NumNum => kit_is)
    (case kit_LinLin => kit_is)
    (case kit_NumLin => kit_is)
    (case kit_nonLin => kit_is)
    (case kit_intLin => kit_is)
    (case kit_strLin => kit_is)
    (case kit_tupLin => kit_is)
    (case kit_lstLin => kit_is)
    (case kit_blLin => kit_is)
    (case ne_Line => k_is)
    (case sub_NumLin => k_is)
    (case sub_nonLin => k_is)
    (case sub_intLin => k_is)
    (case sub_strLin => k_is)
    (case sub_tupLin => k_is)
    (case sub_lstLin => k_is)
    (case sub_blLin => k_is)
