import PyProof.Rows.All
import Wide.All
import OpenK.AllK
import Wide.FinOn
import KE.KOpsOwn
import KE.RegKIsAll
import HandS.ForMost
import HandS.ForExc
import HandS.Wide
import HandS.IsInst
import HandS.Property
import HandS.Star
import HandS.SlotsOwn
import HandS.MakeKw
import HandS.Evl
import HandS.Style
import HandS.MakeKwOnly
import HandS.TupSets
import HandS.Small
import PyProof.MeetsIn
import PyProof.CallType
import PyProof.Conv_bool
import PySem.Challenge.RW_whatspeed_k04_whole_numbers_in_sums
set_option Elab.async false
set_option linter.all false
set_option maxRecDepth 100000
set_option maxHeartbeats 2000000
namespace WL
open PySem PySem.Spec PyProof.Rows L2

/-! ### operators that the bundles lack -/
def CPowW (i j : Int) : Prop := 0 ≤ j ∧ (Builtin.Int.intBits i : Int) * j ≤ 2 ^ 27
def CDivG (i j : Int) : Prop := j ≠ 0 ∧ j.natAbs.log2 < 9000
section
variable {X : Cx}
theorem op_powW : OpR X (binaryOp .Pow) (rI CPowW fun i j => .int (i ^ j.toNat)) := opI fun _ _ _ _ _ _ _ hc q => pow_int hc.1 hc.2 q
theorem op_fdivG : OpR X (binaryOp .FloorDiv) (rI CDivG fun i j => .int (i.fdiv j)) := opI fun _ _ _ _ _ _ _ hc q =>
  floordiv_int hc.1 q (.inl (PyProof.noPylong_of_log2 hc.2))
end

/-! ### an own class's operators: x op y, both instances of the class at C -/
def rOwn2 (C : Addr) (sp : Sp) (E : XK) : R2 := fun x y H Q => ∃ a dx fs b dy gs, x = .ref a ∧ y = .ref b ∧ H a = some (.ins C dx fs) ∧ H b = some (.ins C dy gs) ∧ sp [x, y] H Q E
/-- x == y, x an instance of the class at C, y of a type that is not below it -/
def rOwnEq (K : PySem.W.Frag) (C : Addr) (sp : Sp) (E : XK) : R2 := fun x y H Q => ∃ a dx fs t, x = .ref a ∧ H a = some (.ins C dx fs) ∧ TyX K H y t ∧ PySem.W.notFirst K C t = true ∧ sp [x, y] H Q E
section
variable {X : Cx} {CX : CXT} {n : Nat} {C g : Addr} {fd : FuncData} {ps : List Str} {sp : Sp} {E : XK}
theorem op_own2 {op : Operator} (F : FnOk X.prog X.w X.K X.mg X.base CX n g fd ps sp) (hb : Binds X.K fd ps []) (hs : PySem.W.findIn X.K (.ref C) (PySem.dunder op.info.2) = some (some (.ref g)))
    (hf : PySem.W.isFn X.K (.ref g) = true) (hc : PySem.W.selfFirst X.K C = true) (hr : Room n X.A) (hx : Passes CX X E) : OpR X (binaryOp op) (rOwn2 C sp E) := by
  intro pins s σ H x y v u Q I rx ry h
  obtain ⟨a, dx, fs, b, dy, gs, rfl, rfl, ha, hb', q⟩ := h
  cases (show v = Value.ref a from rx)
  cases (show u = Value.ref b from ry)
  obtain ⟨mA, J, _⟩ := ins_get I.hok ha
  obtain ⟨mB, J', _⟩ := ins_get I.hok hb'
  obtain ⟨od, J, _⟩ := J.look
  obtain ⟨od', J', _⟩ := J'.look
  obtain ⟨m, hF⟩ := I.fr
  refine PySem.W.binop_K hF I.ok.mod.kin J J'.type hc hs hf ?_
  refine wpAny_mono (run_fn (us := [.ref a, .ref b]) (vs := [.ref a, .ref b]) (dvs := []) (ds := []) F hr hb .nil hx I (.cons rfl (.cons rfl .nil)) q) (fun w s' z => ?_) fun _ _ x => x
  obtain ⟨z', H', I', rz, qz⟩ := z
  exact SlX.cmpback rz ⟨z', H', I', rz, qz⟩
theorem op_ownEq (F : FnOk X.prog X.w X.K X.mg X.base CX n g fd ps sp) (hb : Binds X.K fd ps []) (hs : PySem.W.findIn X.K (.ref C) "__eq__" = some (some (.ref g)))
    (hf : PySem.W.isFn X.K (.ref g) = true) (hr : Room n X.A) (hx : Passes CX X E) : OpR X (compareOp .Eq) (rOwnEq X.K C sp E) := by
  intro pins s σ H x y v u Q I rx ry h
  obtain ⟨a, dx, fs, t, rfl, ha, ty, hn, q⟩ := h
  cases (show v = Value.ref a from rx)
  obtain ⟨mA, J, _⟩ := ins_get I.hok ha
  obtain ⟨od, J, _⟩ := J.look
  obtain ⟨m, hF⟩ := I.fr
  obtain ⟨P, Z, p, _⟩ := kit_of I ry ty
  show wpAny (model X.prog X.w) X.A (richCompare .Eq (.ref a) u) (EP X pins σ Q) X.xe s
  refine PySem.W.cmp_K (op := .Eq) hr.units0 hF I.ok.mod.kin J (Z.ty _ _ I.kIn p) hn hs hf ?_
  refine wpAny_mono (run_fn (us := [.ref a, u]) (vs := [.ref a, y]) (dvs := []) (ds := []) F hr hb .nil hx I (.cons rfl (.cons ry .nil)) q) (fun w s' z => ?_) fun _ _ x => x
  obtain ⟨z', H', I', rz, qz⟩ := z
  exact SlX.cmpback rz ⟨z', H', I', rz, qz⟩
/-- -x -/
def rOwn1 (C : Addr) (sp : Sp) (E : XK) : V → Hp → VK → Prop := fun x H Q => ∃ a dx fs, x = .ref a ∧ H a = some (.ins C dx fs) ∧ sp [x] H Q E
theorem un_ownNeg (F : FnOk X.prog X.w X.K X.mg X.base CX n g fd ps sp) (hb : Binds X.K fd ps []) (hs : PySem.W.findIn X.K (.ref C) "__neg__" = some (some (.ref g)))
    (hf : PySem.W.isFn X.K (.ref g) = true) (hr : Room n X.A) (hx : Passes CX X E) : UnR X (unaryOp .USub) (rOwn1 C sp E) := by
  intro pins s σ H x v Q I rx h
  obtain ⟨a, dx, fs, rfl, ha, q⟩ := h
  cases (show v = Value.ref a from rx)
  obtain ⟨mA, J, _⟩ := ins_get I.hok ha
  obtain ⟨od, J, _⟩ := J.look
  obtain ⟨m, hF⟩ := I.fr
  exact PySem.W.ksp_neg hF I.ok.mod.kin J hs hf (run_fn (us := [.ref a]) (vs := [.ref a]) (dvs := []) (ds := []) F hr hb .nil hx I (.cons rfl .nil) q)
end

/-! ### x != y by an own __eq__ and object's __ne__ -/
section
variable {prog : Program} {w : World} {A : Around} {E : Value → Shared → Prop} {s : Shared} {K : PySem.W.Frag} {x C f L : Addr} {h₀ : Heap} {m : Str → Option Value} {ox : Obj} {od : Option Obj} {b tb : Value}
theorem ne_entry (X : K.In s.heap) (I : PySem.W.InstAt s.heap x ox C od) (hu : A.units < cLine) (hs : PySem.W.findIn K (.ref C) "__eq__" = some (some (.ref f))) (hf : PySem.W.isFn K (.ref f) = true) {Q : Fin → Shared → Prop}
    (h : wpAny (model prog w) A (call (.ref f) [.ref x, b]) (fun v s' => ∃ r, v = .bool r ∧ Q (.done (.ret (.bool (!r)))) s') E s) :
    wpAny (model prog w) A (Builtin.«object.__ne__» ⟨[.ref x, b], []⟩) Q E s := by
  unfold Builtin.«object.__ne__»
  repeat (first
    | with_reducible refine wpAny_cRoomFor hu ?_
    | (refine wpAny_bind (m := callSpecialIfBound? (.ref x) (Str.ofString "__eq__") [b])
        (PySem.W.ifBound_K X I hs hf (wpAny_mono h (fun r s' hr => by
          obtain ⟨b, rfl, hq⟩ := hr
          repeat (first | exact hq | exact wpAny_pure hq | exact wpAny_truthy_bool hq | (refine wpAny_bind (m := truthy (.bool _)) (wpAny_truthy_bool ?_)) | wp_step)) fun _ _ e => e)))
    | wp_step)
theorem try_ne (X : K.In s.heap) (I : PySem.W.InstAt s.heap x ox C od) (hu : A.units + 1 < cLine) (hne : PySem.W.findIn K (.ref C) "__ne__" = some (some (.builtin "object.__ne__"))) (hm : PySem.W.mroIn K C (.type "object") = some true)
    (hs : PySem.W.findIn K (.ref C) "__eq__" = some (some (.ref f))) (hf : PySem.W.isFn K (.ref f) = true) {Q : Option Value → Shared → Prop}
    (h : wpAny (model prog w) A.in1 (call (.ref f) [.ref x, b]) (fun v s' => ∃ r, v = .bool r ∧ Q (some (.bool (!r))) s') E s) :
    wpAny (model prog w) A (tryCompare (.ref x) "__ne__" b) Q E s := by
  unfold tryCompare
  simp only [callSpecialIfBound?, bindSpecialIfBound?]
  refine wpAny_bind (wpAny_holding (wpAny_bind (wpAny_bind (wpAny_bind (I.type.here ((PySem.W.looks_findIn X hne).here ?_))))))
  have call_it : ∀ {Q' : Value → Shared → Prop}, (∀ r s', Q (some (.bool (!r))) s' → Q' (.bool (!r)) s') → wpAny (model prog w) A (call (.builtin "object.__ne__") [.ref x, b]) Q' E s := fun hq =>
    wpAny_call (codeAny_call_builtin F.cmp_object.ne.plain F.cmpEntry_ne (PySem.W.check_slot F.cmpKind_ne F.cmpSplit_ne (I.type.andThen (PySem.W.looks_mroIn X hm)) (F.cmpArgs_ne _ _)
      (ne_entry (A := A.in1) X I hu hs hf (wpAny_mono h (fun v s' hv => by
        obtain ⟨r, rfl, hq'⟩ := hv
        first | exact ⟨r, rfl, hq _ _ hq'⟩ | exact ⟨r, rfl, wpAny_pure (hq _ _ hq')⟩) fun _ _ e => e))))
  simp only [F.cmp_object.ne.bind]
  refine wpAny_bind (wpAny_askSetting (wpAny_ite ?_))
  have fin : wpAny (model prog w) A (call (.builtin "object.__ne__") ([.ref x] ++ [b]) >>= fun v => pure (some v)) (fun r s' => wpAny (model prog w) A (match r with | some .notImplemented => pure none | none => pure none | some v => pure (some v)) Q E s') E s :=
    wpAny_bind (call_it fun r s' q => wpAny_pure (wpAny_pure q))
  split
  · exact wpAny_bind (wpAny_pure (wpAny_pure (by first | exact fin | exact wpAny_mono fin (fun _ _ z => z) fun _ _ z => z)))
  · exact wpAny_tryCatch (wpAny_bind (wpAny_pure (wpAny_pure (by first | exact fin | exact wpAny_mono fin (fun _ _ z => z) fun _ _ z => z))))
theorem ne_K {Q : Value → Shared → Prop} (hu : A.units + 1 < cLine) (X : K.In s.heap) (I : PySem.W.InstAt s.heap x ox C od) (hb : PySem.W.Looks (model prog w) s.heap (typeOf b) tb) (hn : PySem.W.notFirst K C tb = true)
    (hne : PySem.W.findIn K (.ref C) "__ne__" = some (some (.builtin "object.__ne__"))) (hm : PySem.W.mroIn K C (.type "object") = some true) (hs : PySem.W.findIn K (.ref C) "__eq__" = some (some (.ref f))) (hf : PySem.W.isFn K (.ref f) = true)
    (h : wpAny (model prog w) A.in1 (call (.ref f) [.ref x, b]) (fun v s' => ∃ r, v = .bool r ∧ Q (.bool (!r)) s') E s) : wpAny (model prog w) A (richCompare .NotEq (.ref x) b) Q E s := by
  have one : wpAny (model prog w) A (tryCompare (.ref x) "__ne__" b) (fun r s' => ∃ v, r = some v ∧ Q v s') E s := try_ne X I hu hne hm hs hf (wpAny_mono h (fun v s' hv => by
    obtain ⟨r, rfl, q⟩ := hv
    exact ⟨r, rfl, _, rfl, q⟩) fun _ _ e => e)
  unfold richCompare
  simp only [oneThing_ref]
  refine wpAny_holding (wpAny_bind (wpAny_cRoomFor (by omega) ?_))
  refine wpAny_bind (I.type.here (wpAny_bind (hb.here ?_)))
  split
  · rename_i q
    have e : PySem.W.subIn K tb (.ref C) = some false := by
      rcases Bool.or_eq_true_iff.mp hn with e | e
      · rw [beq_iff_eq.mp e] at q; simp at q
      · exact beq_iff_eq.mp e
    refine wpAny_bind ((PySem.W.looks_subIn X e).here ?_)
    simp only [Bool.false_eq_true, if_false]
    refine wpAny_bind (wpAny_mono one (fun r s' z => ?_) fun _ _ e => e)
    obtain ⟨v, rfl, hq⟩ := z
    exact wpAny_pure hq
  · refine wpAny_bind (wpAny_pure ?_)
    simp only [Bool.false_eq_true, if_false]
    refine wpAny_bind (wpAny_mono one (fun r s' z => ?_) fun _ _ e => e)
    obtain ⟨v, rfl, hq⟩ := z
    exact wpAny_pure hq
end
/-- x != y -/
def rOwnNe (K : PySem.W.Frag) (C : Addr) (sp : Sp) (E : XK) : R2 := fun x y H Q => ∃ a dx fs t, x = .ref a ∧ H a = some (.ins C dx fs) ∧ TyX K H y t ∧ PySem.W.notFirst K C t = true ∧ sp [x, y] H (fun z H' => ∃ r, z = .bl r ∧ Q (.bl (!r)) H') E
theorem op_ownNe {X : Cx} (K : PySem.W.Frag) {CX : CXT} {n : Nat} {C g : Addr} {fd : FuncData} {ps : List Str} {sp : Sp} {E : XK} (F : FnOk X.prog X.w X.K X.mg X.base CX n g fd ps sp) (hb : Binds X.K fd ps []) (hne : PySem.W.findIn X.K (.ref C) "__ne__" = some (some (.builtin "object.__ne__"))) (hm : PySem.W.mroIn X.K C (.type "object") = some true)
    (hs : PySem.W.findIn X.K (.ref C) "__eq__" = some (some (.ref g))) (hf : PySem.W.isFn X.K (.ref g) = true) (hr : Room (n + 1) X.A) (hx : Passes CX X E) (hK : X.K = K := by rfl) : OpR X (compareOp .NotEq) (rOwnNe K C sp E) := by
  subst hK
  intro pins s σ H x y v u Q I rx ry h
  obtain ⟨a, dx, fs, t, rfl, ha, ty, hn, q⟩ := h
  cases (show v = Value.ref a from rx)
  obtain ⟨mA, J, _⟩ := ins_get I.hok ha
  obtain ⟨od, J, _⟩ := J.look
  obtain ⟨P, Z, p, _⟩ := kit_of I ry ty
  show wpAny (model X.prog X.w) X.A (richCompare .NotEq (.ref a) u) (EP X pins σ Q) X.xe s
  refine ne_K (by have := hr.un; omega) I.kIn J (Z.ty _ _ I.kIn p) hn hne hm hs hf ?_
  have hl := F.len _ _ _ _ q
  refine wpAny_call (codeAny_mono (F.run X.A.in1 X.stack s H ⟨[.ref a, u], []⟩ [.ref a, u] [.ref a, y] _ E hr.in1 I.env0.in1 (by
    have := hb s [.ref a, u] I.kIn (by simpa using hl)
    simpa using this) (.cons rfl (.cons ry .nil)) q) fun r s' hq => ?_)
  cases r with
  | error e => exact hx pins σ H s e s' I hq
  | ok fl =>
    cases fl with
    | ret u =>
      obtain ⟨z, H', I', rz, r, ez, q'⟩ := I.after hq
      subst ez
      cases (show u = Value.bool r from rz)
      exact ⟨r, rfl, .bl (!r), H', I', rfl, q'⟩
    | next => exact False.elim hq
    | brk => exact False.elim hq
    | cont => exact False.elim hq
/-! ### calls by keywords: f(e, .., k = v), o.m(e, .., k = v) -/
def tMethK (C : Addr) (m : Str) (n mm : Nat) (sp : Sp) (gV : List V → List V → List V) (E : XK) (ta : TE) (t tk : TA) : TE := fun σ H Q => ta σ H fun x H1 => ∃ a dx fs, x = .ref a ∧ H1 a = some (.ins C dx fs) ∧ fs.lookup m = none ∧
  t σ H1 fun vs H2 => tk σ H2 fun zs H3 => vs.length = n ∧ zs.length = mm ∧ sp (gV (x :: vs) zs) H3 Q E
def tCallKN (n mm : Nat) (sp : Sp) (gV : List V → List V → List V) (E : XK) (t tk : TA) : TE := fun σ H Q => t σ H fun vs H2 => tk σ H2 fun zs H3 => vs.length = n ∧ zs.length = mm ∧ sp (gV vs zs) H3 Q E
theorem kbn_of {K : PySem.W.Frag} {x qual : Str} {st : Stmt} {f : Addr} {fd : FuncData} {ps : List Str} (F : Fun K x qual st f fd) (n : Nat) (ks : List Str) (g : {α : Type} → List α → List α → List α)
    (hrel : ∀ {vs zs : List V} {us ws : List Value}, Vals vs us → Vals zs ws → Vals (g vs zs) (g us ws))
    (h : ∀ (kV doc pm : Value) (an : Option Addr) (cdv ct : Value) (us ws : List Value), us.length = n → ws.length = ks.length →
      bindArgs (PySem.W.fnOf x qual (defArgs st) (defBody st) (defScope st) .none kV doc pm an cdv ct) ⟨us, ks.zip ws⟩ = pure (ps.zip (g us ws))) : KBn K fd ps n ks (fun us ws => g us ws) (fun vs zs => g vs zs) := by
  obtain ⟨oc, od, kV, doc, pm, an, cdv, ct, osl, rfl, lk, hcd⟩ := F.ex
  exact ⟨fun s us ws X l1 l2 => .of_eq (h kV doc pm an cdv ct us ws l1 l2), fun r1 r2 => hrel r1 r2⟩
section
variable {X : Cx} {CX : CXT} {k n : Nat} {f C : Addr} {fd : FuncData} {ps ks : List Str} {sp : Sp} {E : XK} {x m : Str} {p pos apos : Pos} {o e : Expr} {es : List Expr} {kws : List Keyword} {ta : TE} {t tk : TA} {g : List Value → List Value → List Value} {gV : List V → List V → List V}
theorem run_fnN {pins : List (Addr × Obj)} {σ : L2.St} {H : Hp} {s : Shared} {Q : VK} {us ws : List Value} {vs zs : List V} (F : FnOk X.prog X.w X.K X.mg X.base CX k f fd ps sp) (hr : Room k X.A) (hb : KBn X.K fd ps n ks g gV) (hx : Passes CX X E)
    (I : Inv X pins σ H s) (r : Vals vs us) (rz : Vals zs ws) (l1 : vs.length = n) (l2 : zs.length = ks.length) (h : sp (gV vs zs) H Q E) : wpAny (model X.prog X.w) X.A (call (.ref f) us (ks.zip ws)) (EP X pins σ Q) X.xe s := by
  have r2 := hb.rel r rz
  refine wpAny_call (codeAny_mono (F.run X.A X.stack s H ⟨us, ks.zip ws⟩ (g us ws) (gV vs zs) Q E hr I.env0 (hb.to s us ws I.kIn (r.length.symm.trans l1) (rz.length.symm.trans l2)) r2 h) fun r s' hq => ?_)
  cases r with
  | error e => exact hx pins σ H s e s' I hq
  | ok fl =>
    cases fl with
    | ret u => exact I.after hq
    | next => exact False.elim hq
    | brk => exact False.elim hq
    | cont => exact False.elim hq
/-- f(k = v, ..) -/
theorem pe_callK0 (F : FnOk X.prog X.w X.K X.mg X.base CX k f fd ps sp) (hr : Room k X.A) (hg : Gl X x) (hm : X.mg x = some (.ref f)) (hk : PySem.W.keepIn X.K (.ref f) = true) (hb : KBn X.K fd ps 0 ks g gV) (hx : Passes CX X E) (hkw : PK X kws tk)
    (hall : (backToKw pos (keywordEach kws X.env)).all (·.1.isSome) = true := by rfl) (hks : (backToKw pos (keywordEach kws X.env)).filterMap (·.1) = ks := by rfl) (hdb : (x == ("__debug__" : Str)) = false := by decide)
    (hpl : ((backTo pos (starEach [] X.env)).any (·.1) || (backToKw pos (keywordEach kws X.env)).any (·.1.isNone)) = false := by rfl) :
    PE X (.Call (.Name x p) [] kws pos) (tCallKN 0 ks.length sp gV E tNil tk) := by
  refine ⟨fun pins s σ H Q I h => ?_⟩
  refine wpAny_Call_Name_kw (ld_glob I hg hm ?_ hdb)
  refine PySem.W.callWith_KW0 (h₀ := X.base) I.ok.mod.kin hk hall ?_ hpl
  refine thn (hkw.run pos pins s σ H _ I h) fun ws s2 ⟨zs, H2, I2, rz, l1, l2, q2⟩ => ⟨I2.kIn, ?_⟩
  rw [hks]
  exact run_fnN (us := []) (vs := []) F hr hb hx I2 .nil rz rfl l2 q2
/-- o.m(k = v, ..) -/
theorem pe_methK0 {pl : Sem Bool} (he : PE X o ta) (c : Cls X.K C) (hm : Meth X.K C m f) (F : FnOk X.prog X.w X.K X.mg X.base CX k f fd ps sp) (hr : Room k X.A) (hb : KBn X.K fd ps 1 ks g gV) (hx : Passes CX X E) (hkw : PK X kws tk)
    (hall : (backToKw pos (keywordEach kws X.env)).all (·.1.isSome) = true := by rfl) (hks : (backToKw pos (keywordEach kws X.env)).filterMap (·.1) = ks := by rfl)
    (hpl : ((backTo pos (starEach [] X.env)).any (·.1) || (backToKw pos (keywordEach kws X.env)).any (·.1.isNone)) = false := by rfl)
    (ht : eval (.Call (.Attribute o m apos) [] kws pos) X.env = (do
      let ov ← eval o X.env
      standAt apos.atName
      let (f, first) ← holding [ov] (getMethod ov m pl)
      callWith pos f first (backTo pos (starEach [] X.env)) (backToKw pos (keywordEach kws X.env))) := by rfl) :
    PE X (.Call (.Attribute o m apos) [] kws pos) (tMethK C m 0 ks.length sp gV E ta tNil tk) := by
  refine ⟨fun pins s σ H Q I h => ?_⟩
  refine PySem.W.methodCall_KW (pl := pl) (thn (he.run pins s σ H _ I h) fun u s1 ⟨x, H1, I1, rx, a, dx, fs, ex, ea, l, q⟩ => ?_) ht
  subst ex
  obtain rfl : u = Value.ref a := rx
  refine getmeth_ok I1 ea c hm l ?_
  refine PySem.W.callWith_KW0 (first := [.ref a]) (h₀ := X.base) I.ok.mod.kin hm.kp hall ?_ hpl
  refine thn (hkw.run pos pins s1 σ H1 _ I1 q) fun ws s2 ⟨zs, H2, I2, rz, l1, l2, q2⟩ => ⟨I2.kIn, ?_⟩
  rw [hks]
  exact run_fnN (us := [.ref a]) (vs := [.ref a]) F hr hb hx I2 (.cons rfl .nil) rz rfl l2 q2
/-- f(e, ..), f an instance of the class at C -/
def tCallI (C : Addr) (sp : Sp) (dvs : List V) (E : XK) (tf : TE) (t : TA) : TE := fun σ H Q => tf σ H fun y H1 => ∃ a, y = V.ref a ∧ t σ H1 fun vs H2 => ∃ dx fs, H2 a = some (.ins C dx fs) ∧ sp (V.ref a :: (vs ++ dvs)) H2 Q E
theorem pe_callI {fe : Expr} {tf : TE} {dvs : List V} {ds : List Value} (hf : PE X fe tf) (c : StX.CallO X.K C f) (F : FnOk X.prog X.w X.K X.mg X.base CX k f fd ps sp) (hr : Room k X.A) (hb : Binds X.K fd ps ds) (hd : Vals dvs ds) (hx : Passes CX X E) (ha : PA X (e :: es) t)
    (ht : eval (.Call fe (e :: es) [] pos) X.env = (do callWith pos (← eval fe X.env) [] (backTo pos (starEach (e :: es) X.env)) (backToKw pos (keywordEach [] X.env))) := by rfl)
    (he : starEach (e :: es) X.env = (false, eval e X.env) :: starEach es X.env := by rfl) (hpl : (backTo pos (starEach es X.env)).any (·.1) = false := by rfl) : PE X (.Call fe (e :: es) [] pos) (tCallI C sp dvs E tf t) := by
  refine ⟨fun pins s σ H Q I h => ?_⟩
  refine Call_ (thn (hf.run pins s σ H _ I h) fun u s1 ⟨y, H1, I1, ry, a, ey, q⟩ => ?_) ht
  subst ey
  obtain rfl : u = Value.ref a := ry
  refine StX.callO_with (thn (ha.run pos pins s1 σ H1 _ I1 q) fun us s2 ⟨vs, H2, I2, r, dx, fs, hi, q2⟩ => ?_) he hpl
  obtain ⟨ox, od, J, hdt⟩ := StX.insC_at I2 (.inr ⟨dx, fs, hi⟩)
  exact ⟨⟨C, ox, od, J, hdt⟩, StX.run_callO c (F.raw hb hd) hr hx I2 (.inr ⟨dx, fs, hi⟩) r q2⟩
end
/-! ### the rules whose readings name the written part, with it told (for a comprehension's block) -/
section
variable {X : Cx} (K : PySem.W.Frag)
theorem ixT (h : X.K = K := by rfl) : IxR X (rIxT K) := h ▸ ix_tup
theorem ixL (h : X.K = K := by rfl) : IxR X (rIxL K) := h ▸ ix_list
theorem cIsi (h : X.K = K := by rfl) : CallR X (.builtin "isinstance") (rIsi K) := h ▸ call_isi
theorem opEqD (hu : X.A.units + 64 < cLine) (h : X.K = K := by rfl) : OpR X (compareOp .Eq) (rEqD K) := h ▸ op_eqD hu
theorem opNeD (hu : X.A.units + 64 < cLine) (h : X.K = K := by rfl) : OpR X (compareOp .NotEq) (rNeD K) := h ▸ op_neD hu
theorem peFld {e : Expr} {f : Str} {pos : Pos} {ta : TE} (he : PE X e ta) (hb : attributeBase e f X.env (eval e X.env) = eval e X.env := by rfl) (h : X.K = K := by rfl) : PE X (.Attribute e f pos) (tFld K ta f) := h ▸ pe_fld he hb
theorem opOwnEq {CX : CXT} {n : Nat} {C g : Addr} {fd : FuncData} {ps : List Str} {sp : Sp} {E : XK} (F : FnOk X.prog X.w X.K X.mg X.base CX n g fd ps sp) (hb : Binds X.K fd ps []) (hs : PySem.W.findIn X.K (.ref C) "__eq__" = some (some (.ref g)))
    (hf : PySem.W.isFn X.K (.ref g) = true) (hr : Room n X.A) (hx : Passes CX X E) (h : X.K = K := by rfl) : OpR X (compareOp .Eq) (rOwnEq K C sp E) := h ▸ op_ownEq F hb hs hf hr hx
theorem piList {tg l : Expr} {tl : TE} (hl : PE X l tl) (h : X.K = K := by rfl) : PI X tg l (iList K tl) := h ▸ pi_list hl
theorem piTup {tg l : Expr} {tl : TE} (hl : PE X l tl) (h : X.K = K := by rfl) : PI X tg l (iTup K tl) := h ▸ pi_tup hl
theorem pgTup (n : Nat) {es : List Expr} {k : Nat} {t : TGs} {pos : Pos} (hc : X.calm = true) (hh : PGs X es t)
    (hn : (assignEach es X.env).length = n := by rfl) (hst : (assignEach es X.env).findIdx? (·.1) = none := by rfl) (h : X.K = K := by rfl) : PG X (.Tuple es k pos) (gTup K n t) := h ▸ pg_tup hc hh hn hst
end
theorem stT {σ σ' : L2.St} {ta tb : TS} {D : Ends} {H : Hp} (e : σ = σ') (h : tSeq ta tb D σ' H) : tSeq ta tb D σ H := e ▸ h
end WL
namespace WM
/-! ### fractions: core Rat -/
theorem gcd_pos {t b : Int} (hb : b ≠ 0) : 0 < b.gcd t := Int.gcd_pos_of_ne_zero_left _ hb
theorem fdiv_pos' {a : Int} {g : Nat} (hg : 0 < g) : a.fdiv (g : Int) = a / (g : Int) := Int.fdiv_eq_ediv_of_nonneg _ (by omega)
theorem fdiv_dvd {a k g : Int} (hg : g ≠ 0) (h : a = g * k) : a.fdiv g = k := by
  subst h
  rw [Int.mul_comm]
  exact Int.mul_fdiv_cancel _ hg
theorem ediv_dvd {a k g : Int} (hg : g ≠ 0) (h : a = g * k) : a / g = k := by
  subst h
  exact Int.mul_ediv_cancel_left _ hg
/-- what Number keeps above the stroke -/
theorem make_num {t b : Int} {g : Nat} (hb : b ≠ 0) (e : g = Nat.gcd t.natAbs b.natAbs) : t.fdiv (if b < 0 then -(g : Int) else (g : Int)) = (Rat.divInt t b).num := by
  have eg : b.gcd t = g := by rw [e, Int.gcd, Nat.gcd_comm]
  have hg : 0 < g := eg ▸ gcd_pos hb
  rw [Rat.num_divInt, eg]
  have hd : (g : Int) ∣ t := by rw [← eg]; exact Int.gcd_dvd_right ..
  obtain ⟨k, hk⟩ := hd
  have hg' : (g : Int) ≠ 0 := by omega
  by_cases hn : b < 0
  · rw [if_pos hn, Int.sign_eq_neg_one_of_neg hn, fdiv_dvd (k := -k) (by omega) (by rw [hk, Int.neg_mul_neg]), ediv_dvd (k := -k) hg' (by rw [hk, Int.neg_one_mul, Int.mul_neg])]
  · rw [if_neg hn, Int.sign_eq_one_of_pos (by omega), fdiv_dvd hg' hk, ediv_dvd (k := k) hg' (by rw [hk, Int.one_mul])]
theorem make_den {t b : Int} {g : Nat} (hb : b ≠ 0) (e : g = Nat.gcd t.natAbs b.natAbs) : b.fdiv (if b < 0 then -(g : Int) else (g : Int)) = ((Rat.divInt t b).den : Int) := by
  have eg : b.gcd t = g := by rw [e, Int.gcd, Nat.gcd_comm]
  have hg : 0 < g := eg ▸ gcd_pos hb
  rw [Rat.den_divInt, if_neg hb, eg]
  have hd : (g : Int) ∣ b := by rw [← eg]; exact Int.gcd_dvd_left ..
  obtain ⟨k, hk⟩ := hd
  have hg' : (g : Int) ≠ 0 := by omega
  have h2 : b.natAbs / g = k.natAbs := by
    rw [hk, Int.natAbs_mul, Int.natAbs_natCast]
    exact Nat.mul_div_cancel_left _ hg
  have hp : 0 < (g : Int) := by omega
  rw [h2]
  by_cases hn : b < 0
  · rw [if_pos hn, fdiv_dvd (k := -k) (by omega) (by rw [hk, Int.neg_mul_neg])]
    have : k < 0 := by
      rcases Int.lt_or_le k 0 with h | h
      · exact h
      · have := Int.mul_nonneg (Int.le_of_lt hp) h
        omega
    omega
  · rw [if_neg hn, fdiv_dvd hg' hk]
    have : 0 ≤ k := by
      rcases Int.lt_or_le k 0 with h | h
      · have := Int.mul_neg_of_pos_of_neg hp h
        omega
      · exact h
    omega
/-- what a law's own reduction gives: sign * t // g, |b| // g -/
theorem least_num {t b : Int} {g : Nat} (hb : b ≠ 0) (e : g = Nat.gcd t.natAbs b.natAbs) : ((if b < 0 then -1 else 1) * t).fdiv (g : Int) = (Rat.divInt t b).num := by
  have eg : b.gcd t = g := by rw [e, Int.gcd, Nat.gcd_comm]
  have hg : 0 < g := eg ▸ gcd_pos hb
  rw [Rat.num_divInt, eg, fdiv_pos' hg]
  by_cases hn : b < 0
  · rw [if_pos hn, Int.sign_eq_neg_one_of_neg hn]
  · rw [if_neg hn, Int.sign_eq_one_of_pos (by omega)]
theorem least_den {t b : Int} {g : Nat} (hb : b ≠ 0) (e : g = Nat.gcd t.natAbs b.natAbs) : (if b < 0 then -b else b).fdiv (g : Int) = ((Rat.divInt t b).den : Int) := by
  have eg : b.gcd t = g := by rw [e, Int.gcd, Nat.gcd_comm]
  have hg : 0 < g := eg ▸ gcd_pos hb
  rw [Rat.den_divInt, if_neg hb, eg, fdiv_pos' hg]
  have : (if b < 0 then -b else b) = (b.natAbs : Int) := by split <;> omega
  rw [this]
  rfl
theorem gcd_ne {t b : Int} {g : Nat} (hb : b ≠ 0) (e : g = Nat.gcd t.natAbs b.natAbs) : 0 < g := by
  have eg : b.gcd t = g := by rw [e, Int.gcd, Nat.gcd_comm]
  exact eg ▸ gcd_pos hb
theorem gcd_le {t b : Int} {g : Nat} (hb : b ≠ 0) (e : g = Nat.gcd t.natAbs b.natAbs) : g ≤ b.natAbs := by
  rw [e]
  exact Nat.gcd_le_right _ (by omega)
/-! ### sizes -/
def Bd (n : Nat) (q : Rat) : Prop := q.num.natAbs < 2 ^ n ∧ q.den < 2 ^ n
theorem two_le {m n : Nat} (h : m ≤ n) : 2 ^ m ≤ 2 ^ n := Nat.pow_le_pow_right (by decide) h
theorem Bd.mono {m n : Nat} {q : Rat} (h : Bd m q) (l : m ≤ n) : Bd n q := ⟨Nat.lt_of_lt_of_le h.1 (two_le l), Nat.lt_of_lt_of_le h.2 (two_le l)⟩
theorem den_ne (q : Rat) : (q.den : Int) ≠ 0 := by have := q.den_pos; omega
theorem den_pos' (q : Rat) : 0 < (q.den : Int) := by have := q.den_pos; omega
theorem Bd.mk' {n : Nat} {t b : Int} (hb : b ≠ 0) (h1 : t.natAbs < 2 ^ n) (h2 : b.natAbs < 2 ^ n) : Bd n (Rat.divInt t b) := by
  refine ⟨?_, ?_⟩
  · rw [Rat.num_divInt]
    refine Nat.lt_of_le_of_lt ?_ h1
    have hg : 0 < b.gcd t := gcd_pos hb
    have hd : ((b.gcd t : Nat) : Int) ∣ b.sign * t := Int.dvd_mul_of_dvd_right (Int.gcd_dvd_right ..)
    obtain ⟨k, hk⟩ := hd
    rw [ediv_dvd (k := k) (by omega) hk]
    have h3 : (b.sign * t).natAbs = t.natAbs := by
      rw [Int.natAbs_mul, Int.natAbs_sign_of_ne_zero hb, Nat.one_mul]
    have h4 : (b.sign * t).natAbs = b.gcd t * k.natAbs := by rw [hk, Int.natAbs_mul, Int.natAbs_natCast]
    rw [← h3, h4]
    exact Nat.le_mul_of_pos_left _ hg
  · rw [Rat.den_divInt, if_neg hb]
    exact Nat.lt_of_le_of_lt (Nat.div_le_self _ _) h2
theorem add_eq (p q : Rat) : Rat.divInt (p.num * q.den + q.num * p.den) (p.den * q.den) = p + q := by
  conv => rhs; rw [← Rat.num_divInt_den p, ← Rat.num_divInt_den q]
  rw [Rat.divInt_add_divInt _ _ (den_ne p) (den_ne q)]
theorem sub_eq (p q : Rat) : Rat.divInt (p.num * q.den - q.num * p.den) (p.den * q.den) = p - q := by
  conv => rhs; rw [← Rat.num_divInt_den p, ← Rat.num_divInt_den q]
  rw [Rat.divInt_sub_divInt _ _ (den_ne p) (den_ne q)]
theorem mul_eq (p q : Rat) : Rat.divInt (p.num * q.num) (p.den * q.den) = p * q := by
  conv => rhs; rw [← Rat.num_divInt_den p, ← Rat.num_divInt_den q]
  rw [Rat.divInt_mul_divInt]
theorem div_eq (p q : Rat) : Rat.divInt (p.num * q.den) (p.den * q.num) = p / q := by
  rw [Rat.div_def, Rat.inv_def]
  conv => rhs; rw [← Rat.num_divInt_den p]
  rw [Rat.divInt_mul_divInt]
theorem neg_eq (p : Rat) : Rat.divInt (-p.num) p.den = -p := by
  conv => rhs; rw [← Rat.num_divInt_den p]
  rw [Rat.neg_divInt]
theorem mul_lt {a b m n : Nat} (ha : a < 2 ^ m) (hb : b < 2 ^ n) : a * b < 2 ^ (m + n) := by
  rw [Nat.pow_add]
  exact Nat.mul_lt_mul'' ha hb
theorem imul_lt {a b : Int} {m n : Nat} (ha : a.natAbs < 2 ^ m) (hb : b.natAbs < 2 ^ n) : (a * b).natAbs < 2 ^ (m + n) := by
  rw [Int.natAbs_mul]
  exact mul_lt ha hb
theorem iadd_lt {a b : Int} {n : Nat} (ha : a.natAbs < 2 ^ n) (hb : b.natAbs < 2 ^ n) : (a + b).natAbs < 2 ^ (n + 1) := by
  have : (a + b).natAbs ≤ a.natAbs + b.natAbs := Int.natAbs_add_le a b
  rw [Nat.pow_succ]
  omega
theorem isub_lt {a b : Int} {n : Nat} (ha : a.natAbs < 2 ^ n) (hb : b.natAbs < 2 ^ n) : (a - b).natAbs < 2 ^ (n + 1) := by
  have : (a - b).natAbs ≤ a.natAbs + b.natAbs := by omega
  rw [Nat.pow_succ]
  omega
theorem up_lt {a m n : Nat} (h : a < 2 ^ m) (l : m ≤ n) : a < 2 ^ n := Nat.lt_of_lt_of_le h (two_le l)
theorem Bd.den' {n : Nat} {q : Rat} (h : Bd n q) : ((q.den : Int)).natAbs < 2 ^ n := by rw [Int.natAbs_natCast]; exact h.2
theorem Bd.add {m n : Nat} {p q : Rat} (h : Bd m p) (k : Bd n q) : Bd (m + n + 1) (p + q) := by
  rw [← add_eq]
  refine Bd.mk' (Int.mul_ne_zero (den_ne p) (den_ne q)) (iadd_lt (imul_lt h.1 k.den') (up_lt (imul_lt k.1 h.den') (by omega))) (up_lt (imul_lt h.den' k.den') (by omega))
theorem Bd.sub {m n : Nat} {p q : Rat} (h : Bd m p) (k : Bd n q) : Bd (m + n + 1) (p - q) := by
  rw [← sub_eq]
  refine Bd.mk' (Int.mul_ne_zero (den_ne p) (den_ne q)) (isub_lt (imul_lt h.1 k.den') (up_lt (imul_lt k.1 h.den') (by omega))) (up_lt (imul_lt h.den' k.den') (by omega))
theorem Bd.mul {m n : Nat} {p q : Rat} (h : Bd m p) (k : Bd n q) : Bd (m + n) (p * q) := by
  rw [← mul_eq]
  exact Bd.mk' (Int.mul_ne_zero (den_ne p) (den_ne q)) (imul_lt h.1 k.1) (imul_lt h.den' k.den')
theorem num_ne {q : Rat} (h : q ≠ 0) : q.num ≠ 0 := fun e => h (Rat.num_eq_zero.mp e)
theorem Bd.div {m n : Nat} {p q : Rat} (h : Bd m p) (k : Bd n q) (hq : q ≠ 0) : Bd (m + n) (p / q) := by
  rw [← div_eq]
  exact Bd.mk' (Int.mul_ne_zero (den_ne p) (num_ne hq)) (imul_lt h.1 k.den') (imul_lt h.den' k.1)
theorem Bd.neg {m : Nat} {p : Rat} (h : Bd m p) : Bd m (-p) := by
  refine ⟨?_, ?_⟩
  · rw [show (-p).num = -p.num from rfl, Int.natAbs_neg]; exact h.1
  · rw [show (-p).den = p.den from rfl]; exact h.2
theorem log2_lt {a n : Nat} (h0 : 0 < n) (h : a < 2 ^ n) : a.log2 < n := by
  by_cases ha : a = 0
  · subst ha; rw [Nat.log2_zero]; exact h0
  · exact (Nat.log2_lt ha).mpr h
/-- equal fractions: the same above and below -/
theorem eq_iff (p q : Rat) : p = q ↔ p.num = q.num ∧ p.den = q.den := ⟨fun e => by rw [e]; exact ⟨rfl, rfl⟩, fun ⟨a, b⟩ => Rat.ext a b⟩
end WM
namespace WO
open PySem PySem.Spec PyProof.Rows L2
open Sem (wp)
/-! ### a type's call, for one program -/
section
variable {prog : Program} {w : World} {A : Around} {E : Value → Shared → Prop} {s : Shared}
theorem typeCall_in {T newId initId : String} {Bn Bi : Builtin} {args : List Value} {S : PySem.Spec} {Q Q₁ : Value → Shared → Prop} (ft : TypeCalled T newId initId)
    (hct : checkTypeCall T ⟨args, []⟩ = pure ()) (hcn : checkBuiltinCall newId ⟨.type T :: args, []⟩ = pure ())
    (entryN : entryFor table newId = some Bn) (entryI : entryFor table initId = some Bi) (g : MeetsIn prog w (Bn ⟨.type T :: args, []⟩) S)
    (h : S A.in1 (wants Q₁ E) s)
    (hnext : ∀ obj s₁, Q₁ obj s₁ → s₁.TypeIs obj T ∧ argsOk initId ⟨obj :: args, []⟩ ∧ ∃ Si, Meets (Bi ⟨obj :: args, []⟩) Si ∧ Si A.in1 (wants (fun r s₂ => r = .none ∧ Q obj s₂) E) s₁) :
    wpAny (model prog w) A (call (.type T) args) Q E s := by
  obtain ⟨c, tl, hmro⟩ := ft.mro
  have hmade := ft.made
  have hsub := ft.sub
  refine wpAny_call (codeAny_of_tree ?_)
  show wpAny _ _ (callAny (.type T) _) _ _ _
  refine wpAny_pure ⟨Code.quiet_builtin _ (by decide +kernel), codeAny_builtin F.entry_type_call ?_⟩
  rw [Around.under_plain (weight_type_call_type T args []) (units_type_call_type T args [])]
  have h1 := ft.notType
  have h2 := ft.canCreate
  repeat (any_goals (first | assumption | wp_step))
  refine codeAny_mono (codeAny_call_builtin ft.plain entryN (wpAny_of_eq hcn (g A.in1 _ s h))) fun r s₁ hr => ?_
  cases r with
  | error e => exact hr
  | ok fl =>
    cases fl with
    | ret obj =>
      obtain ⟨hT, hok, Si, gi, hsi⟩ := hnext _ _ hr
      have hli := ft.init.lookup
      have hbi := ft.init.bind obj
      repeat (any_goals (first | assumption | wp_step))
      refine codeAny_mono (codeAny_call_builtin ft.init.plain entryI (ft.init.check _ _ _ _ _ _ _ _ hT hok (gi prog w A.in1 _ s₁ hsi))) fun r₂ s₂ hr₂ => ?_
      cases r₂ with
      | error e => exact hr₂
      | ok fl₂ =>
        cases fl₂ with
        | ret r =>
          obtain ⟨rfl, hq⟩ := hr₂
          repeat (any_goals (first | assumption | wp_step))
        | _ => exact hr₂.elim
    | _ => exact hr.elim
theorem bool_in {x : Value} {Q : Value → Shared → Prop} (h : wpAny (model prog w) A.in1.in1 (truthy x) (fun b s' => Q (.bool b) s') E s) : wpAny (model prog w) A (call (.type "bool") [x]) Q E s := by
  refine typeCall_in (S := fun A R s => wpAny (model prog w) A.in1 (truthy x) (fun b s' => R (.ok (.ret (.bool b))) s') (fun e s' => R (.error e) s') s) F.called_bool (F.typeCall_bool_1 x) (F.newCall_bool_1 x) F.entry_bool_new F.entry_object_init
    (MeetsIn.of_wp fun A R s hs => ?_) (Q₁ := fun obj s₁ => s₁.TypeIs obj "bool" ∧ Q obj s₁) (wpAny_mono h (fun b s' q => ⟨rfl, q⟩) fun _ _ z => z) fun obj _ hq =>
    ⟨hq.1, F.args_object_init_2 obj x, _, object_init_meets F.called_bool.init.lookup F.called_bool.made F.newNe_bool, hq.1, rfl, hq.2⟩
  have f1 := F.conv_sub_bool
  obtain ⟨hp, g, d, tk, os⟩ := s
  repeat (any_goals (first | assumption | (with_reducible refine wpAny_bind (wpAny_mono hs (fun b s' q => ?_) fun _ _ z => z)) | wp_step))
  all_goals first | exact ⟨_, rfl, q⟩ | skip
end

def sB (b : Bool) : Str := if b = true then "True" else "False"
/-! ### abs(x), bool(x) by an own class's methods; repr of a bool; len of a set of tuples -/
section
variable {X : Cx} {CX : CXT} {n : Nat} {C g : Addr} {fd : FuncData} {ps : List Str} {sp : Sp} {E : XK}
def rOwnCall1 (C : Addr) (sp : Sp) (E : XK) : List V → Hp → VK → Prop := fun xs H Q => ∃ a dx fs, xs = [.ref a] ∧ H a = some (.ins C dx fs) ∧ sp [.ref a] H Q E
theorem call_ownAbs (F : FnOk X.prog X.w X.K X.mg X.base CX n g fd ps sp) (hb : Binds X.K fd ps []) (hs : PySem.W.findIn X.K (.ref C) "__abs__" = some (some (.ref g)))
    (hf : PySem.W.isFn X.K (.ref g) = true) (hr : Room (n + 1) X.A) (hx : Passes CX X E) : CallR X (.builtin "abs") (rOwnCall1 C sp E) := by
  intro pins s σ H xs us Q I r h
  obtain ⟨a, dx, fs, rfl, ha, q⟩ := h
  obtain rfl := Vals.ref1 r
  obtain ⟨mA, J, _⟩ := ins_get I.hok ha
  obtain ⟨od, J, _⟩ := J.look
  obtain ⟨m, hF⟩ := I.fr
  refine Calls.call_function_entry kind_abs plain_abs entry_abs (args_abs _) ?_
  unfold Builtin.«abs»
  refine wpAny_bind (m := oneArg "abs" _) (wpAny_pure ?_)
  have hl := F.len _ _ _ _ q
  refine wpAny_bind (m := callSpecial? (.ref a) (Str.ofString "__abs__")) (PySem.W.special_fn I.kIn J hs (beq_iff_eq.mp hf) ?_)
  refine wpAny_call (codeAny_mono (F.run X.A.in1 X.stack s H ⟨[.ref a], []⟩ [.ref a] [.ref a] _ E hr.in1 I.env0.in1 (by
    have := hb s [.ref a] I.kIn (by simpa using hl)
    simpa using this) (.cons rfl .nil) q) fun r s' hq => ?_)
  cases r with
  | error e => exact hx pins σ H s e s' I hq
  | ok fl =>
    cases fl with
    | ret u => exact wpAny_pure ⟨_, rfl, I.after hq⟩
    | next => exact False.elim hq
    | brk => exact False.elim hq
    | cont => exact False.elim hq
/-- bool(x) -/
def rOwnBool (C : Addr) (sp : Sp) (E : XK) : List V → Hp → VK → Prop := fun xs H Q => ∃ a dx fs, xs = [.ref a] ∧ H a = some (.ins C dx fs) ∧ sp [.ref a] H (fun z H' => ∃ r, z = .bl r ∧ Q (.bl r) H') E
theorem call_ownBool (F : FnOk X.prog X.w X.K X.mg X.base CX n g fd ps sp) (hb : Binds X.K fd ps []) (hs : PySem.W.findIn X.K (.ref C) "__bool__" = some (some (.ref g)))
    (hf : PySem.W.isFn X.K (.ref g) = true) (hr : Room (n + 2) X.A) (hx : Passes CX X E) : CallR X (.type "bool") (rOwnBool C sp E) := by
  intro pins s σ H xs us Q I r h
  obtain ⟨a, dx, fs, rfl, ha, q⟩ := h
  obtain rfl := Vals.ref1 r
  obtain ⟨mA, J, _⟩ := ins_get I.hok ha
  obtain ⟨od, J, _⟩ := J.look
  obtain ⟨m, hF⟩ := I.fr
  refine bool_in (PySem.W.truthy_K hF I.ok.mod.kin J hs hf ?_)
  have hl := F.len _ _ _ _ q
  have hr2 : Room n X.A.in1.in1 := Room.in1 (Room.in1 hr)
  refine wpAny_call (codeAny_mono (F.run X.A.in1.in1 X.stack s H ⟨[.ref a], []⟩ [.ref a] [.ref a] _ E hr2 I.env0.in1.in1 (by
    have := hb s [.ref a] I.kIn (by simpa using hl)
    simpa using this) (.cons rfl .nil) q) fun r s' hq => ?_)
  cases r with
  | error e => exact hx pins σ H s e s' I hq
  | ok fl =>
    cases fl with
    | ret u =>
      obtain ⟨z, H', I', rz, r, ez, q'⟩ := I.after hq
      subst ez
      cases (show u = Value.bool r from rz)
      exact ⟨.bl r, H', I', rfl, q'⟩
    | next => exact False.elim hq
    | brk => exact False.elim hq
    | cont => exact False.elim hq
/-- repr(a bool) -/
theorem call_repr_bl : CallR X (.builtin "repr") (fun xs H Q => ∃ b, xs = [.bl b] ∧ Q (.str (sB b)) H) := by
  intro pins s σ H xs us Q I r h
  obtain ⟨b, rfl, q⟩ := h
  obtain ⟨u, rfl, ru⟩ := vals1 r
  cases (show u = Value.bool b from ru)
  exact PySem.P.repr_of_bool ⟨.str _, H, I.tok _, ⟨_, by cases b <;> rfl⟩, q⟩
/-- len(a set of tuples of ints) -/
def rLenT (K : PySem.W.Frag) (P : Program) (w : World) : List V → Hp → VK → Prop := fun vs H Q => ∃ (a : Addr) (L : List (Addr × List Int)), vs = [V.ref a] ∧ H a = some (SetTO P w a L) ∧ (∀ p ∈ L, SqT K H p.1 (p.2.map V.int)) ∧ ((L.map (·.2)).Nodup → Q (.int L.length) H)
theorem cr_lenT : CallR X (.builtin "len") (rLenT X.K X.prog X.w) := by
  intro pins s σ H vs us Q I r h
  obtain ⟨a, L, rfl, ha, hk, q⟩ := h
  have R0 : SetT0 X.prog X.w s.heap a L := (I.hok a _ ha).1
  obtain ⟨es, ep, t, R⟩ := R0.full fun p hp => I.isT (hk p hp)
  rw [Vals.ref1 r]
  obtain ⟨o, ho, hex, hd⟩ := R.ob
  have hn := R.size
  have hf := R.few
  refine call_len_set ho hex hd R.fits (by omega) ⟨.int L.length, H, I.tok _, ⟨_, by rw [hn]⟩, q R.nd⟩
end
end WO
namespace Q
open PySem PySem.Spec PyProof.Rows L2 WL WM WO
def top (i : Nat) : Stmt := PySem.Challenge.pw_whatspeed_k04_whole_numbers_in_sums.main.body.getD i (.Pass ⟨0, 0, 0, 0⟩)
abbrev s_is_integer : Stmt := top 5
abbrev N_is_integer : List Str := ["value"]
theorem sc_is_integer : FnScope ["value"] ["value"] (defScope s_is_integer) := ⟨rfl, rfl, rfl, by decide +kernel, rfl, by decide +kernel, by decide +kernel⟩
abbrev s_shared_divisor : Stmt := top 7
abbrev N_shared_divisor : List Str := ["one", "other"]
theorem sc_shared_divisor : FnScope ["one", "other"] ["one", "other"] (defScope s_shared_divisor) := ⟨rfl, rfl, rfl, by decide +kernel, rfl, by decide +kernel, by decide +kernel⟩
abbrev s_Number_init : Stmt := inClass (top 8) 0
abbrev N_Number_init : List Str := ["self", "top", "bottom", "shared"]
theorem sc_Number_init : FnScope ["self", "top", "bottom", "shared"] ["self", "top", "bottom"] (defScope s_Number_init) := ⟨rfl, rfl, rfl, by decide +kernel, rfl, by decide +kernel, by decide +kernel⟩
abbrev s_Number_top : Stmt := inClass (top 8) 1
abbrev N_Number_top : List Str := ["self"]
theorem sc_Number_top : FnScope ["self"] ["self"] (defScope s_Number_top) := ⟨rfl, rfl, rfl, by decide +kernel, rfl, by decide +kernel, by decide +kernel⟩
abbrev s_Number_bottom : Stmt := inClass (top 8) 2
abbrev N_Number_bottom : List Str := ["self"]
theorem sc_Number_bottom : FnScope ["self"] ["self"] (defScope s_Number_bottom) := ⟨rfl, rfl, rfl, by decide +kernel, rfl, by decide +kernel, by decide +kernel⟩
abbrev s_Number_eq : Stmt := inClass (top 8) 3
abbrev N_Number_eq : List Str := ["self", "other"]
theorem sc_Number_eq : FnScope ["self", "other"] ["self", "other"] (defScope s_Number_eq) := ⟨rfl, rfl, rfl, by decide +kernel, rfl, by decide +kernel, by decide +kernel⟩
abbrev s_Number_is_less : Stmt := inClass (top 8) 4
abbrev N_Number_is_less : List Str := ["self", "other"]
theorem sc_Number_is_less : FnScope ["self", "other"] ["self", "other"] (defScope s_Number_is_less) := ⟨rfl, rfl, rfl, by decide +kernel, rfl, by decide +kernel, by decide +kernel⟩
abbrev s_Number_add : Stmt := inClass (top 8) 5
abbrev N_Number_add : List Str := ["self", "other", "top"]
theorem sc_Number_add : FnScope ["self", "other", "top"] ["self", "other"] (defScope s_Number_add) := ⟨rfl, rfl, rfl, by decide +kernel, rfl, by decide +kernel, by decide +kernel⟩
abbrev s_Number_sub : Stmt := inClass (top 8) 6
abbrev N_Number_sub : List Str := ["self", "other", "top"]
theorem sc_Number_sub : FnScope ["self", "other", "top"] ["self", "other"] (defScope s_Number_sub) := ⟨rfl, rfl, rfl, by decide +kernel, rfl, by decide +kernel, by decide +kernel⟩
abbrev s_Number_mul : Stmt := inClass (top 8) 7
abbrev N_Number_mul : List Str := ["self", "other"]
theorem sc_Number_mul : FnScope ["self", "other"] ["self", "other"] (defScope s_Number_mul) := ⟨rfl, rfl, rfl, by decide +kernel, rfl, by decide +kernel, by decide +kernel⟩
abbrev s_Number_neg : Stmt := inClass (top 8) 9
abbrev N_Number_neg : List Str := ["self"]
theorem sc_Number_neg : FnScope ["self"] ["self"] (defScope s_Number_neg) := ⟨rfl, rfl, rfl, by decide +kernel, rfl, by decide +kernel, by decide +kernel⟩
abbrev s_Number_abs : Stmt := inClass (top 8) 10
abbrev N_Number_abs : List Str := ["self"]
theorem sc_Number_abs : FnScope ["self"] ["self"] (defScope s_Number_abs) := ⟨rfl, rfl, rfl, by decide +kernel, rfl, by decide +kernel, by decide +kernel⟩
abbrev s_Number_bool : Stmt := inClass (top 8) 11
abbrev N_Number_bool : List Str := ["self"]
theorem sc_Number_bool : FnScope ["self"] ["self"] (defScope s_Number_bool) := ⟨rfl, rfl, rfl, by decide +kernel, rfl, by decide +kernel, by decide +kernel⟩
abbrev s_law_pot : Stmt := top 10
abbrev N_law_pot : List Str := ["script", "k", "cell", "own"]
theorem sc_law_pot : FnScope ["script", "k", "cell", "own"] ["script", "k"] (defScope s_law_pot) := ⟨rfl, rfl, rfl, by decide +kernel, rfl, by decide +kernel, by decide +kernel⟩
abbrev s_law_take : Stmt := top 11
abbrev N_law_take : List Str := ["pot", "upto", "digit", "prime", "mixed"]
theorem sc_law_take : FnScope ["pot", "upto", "digit", "prime", "mixed"] ["pot", "upto"] (defScope s_law_take) := ⟨rfl, rfl, rfl, by decide +kernel, rfl, by decide +kernel, by decide +kernel⟩
abbrev s_law_of : Stmt := top 12
abbrev N_law_of : List Str := ["pot", "some"]
theorem sc_law_of : FnScope ["pot", "some"] ["pot", "some"] (defScope s_law_of) := ⟨rfl, rfl, rfl, by decide +kernel, rfl, by decide +kernel, by decide +kernel⟩
abbrev s_law_drawn : Stmt := top 13
abbrev N_law_drawn : List Str := ["pot", "top"]
theorem sc_law_drawn : FnScope ["pot", "top"] ["pot"] (defScope s_law_drawn) := ⟨rfl, rfl, rfl, by decide +kernel, rfl, by decide +kernel, by decide +kernel⟩
abbrev s_law_sum : Stmt := top 14
abbrev N_law_sum : List Str := ["one", "mate"]
theorem sc_law_sum : FnScope ["one", "mate"] ["one", "mate"] (defScope s_law_sum) := ⟨rfl, rfl, rfl, by decide +kernel, rfl, by decide +kernel, by decide +kernel⟩
abbrev s_law_less : Stmt := top 15
abbrev N_law_less : List Str := ["one", "mate"]
theorem sc_law_less : FnScope ["one", "mate"] ["one", "mate"] (defScope s_law_less) := ⟨rfl, rfl, rfl, by decide +kernel, rfl, by decide +kernel, by decide +kernel⟩
abbrev s_law_times : Stmt := top 16
abbrev N_law_times : List Str := ["one", "mate"]
theorem sc_law_times : FnScope ["one", "mate"] ["one", "mate"] (defScope s_law_times) := ⟨rfl, rfl, rfl, by decide +kernel, rfl, by decide +kernel, by decide +kernel⟩
abbrev s_law_turned : Stmt := top 17
abbrev N_law_turned : List Str := ["one"]
theorem sc_law_turned : FnScope ["one"] ["one"] (defScope s_law_turned) := ⟨rfl, rfl, rfl, by decide +kernel, rfl, by decide +kernel, by decide +kernel⟩
abbrev s_law_are_same : Stmt := top 18
abbrev N_law_are_same : List Str := ["some", "one"]
theorem sc_law_are_same : FnScope ["some", "one"] ["some"] (defScope s_law_are_same) := ⟨rfl, rfl, rfl, by decide +kernel, rfl, by decide +kernel, by decide +kernel⟩
abbrev s_law_sums_right : Stmt := top 19
abbrev N_law_sums_right : List Str := ["a", "b", "c", "zero", "one", "both", "rows", "row"]
theorem sc_law_sums_right : FnScope ["a", "b", "c", "zero", "one", "both", "rows", "row"] ["a", "b", "c"] (defScope s_law_sums_right) := ⟨rfl, rfl, rfl, by decide +kernel, rfl, by decide +kernel, by decide +kernel⟩
abbrev s_law_order_right : Stmt := top 20
abbrev N_law_order_right : List Str := ["a", "b", "c", "below", "above", "zero", "words", "more", "mate", "less", "fewer", "far", "wide", "sides", "some", "one"]
theorem sc_law_order_right : FnScope ["a", "b", "c", "below", "above", "zero", "words", "more", "mate", "less", "fewer", "far", "wide", "sides", "some", "one"] ["a", "b", "c"] (defScope s_law_order_right) := ⟨rfl, rfl, rfl, by decide +kernel, rfl, by decide +kernel, by decide +kernel⟩
abbrev s_law : Stmt := top 21
abbrev N_law : List Str := ["script", "k", "pot", "turn", "a", "b", "c"]
theorem sc_law : FnScope ["script", "k", "pot", "turn", "a", "b", "c"] ["script"] (defScope s_law) := ⟨rfl, rfl, rfl, by decide +kernel, rfl, by decide +kernel, by decide +kernel⟩
structure Ad where
  c_Number : Addr
  f_is_integer : Addr
  d_is_integer : FuncData
  f_shared_divisor : Addr
  d_shared_divisor : FuncData
  f_Number_init : Addr
  d_Number_init : FuncData
  f_Number_top : Addr
  d_Number_top : FuncData
  p_Number_top : Addr
  f_Number_bottom : Addr
  d_Number_bottom : FuncData
  p_Number_bottom : Addr
  f_Number_eq : Addr
  d_Number_eq : FuncData
  f_Number_is_less : Addr
  d_Number_is_less : FuncData
  f_Number_add : Addr
  d_Number_add : FuncData
  f_Number_sub : Addr
  d_Number_sub : FuncData
  f_Number_mul : Addr
  d_Number_mul : FuncData
  f_Number_neg : Addr
  d_Number_neg : FuncData
  f_Number_abs : Addr
  d_Number_abs : FuncData
  f_Number_bool : Addr
  d_Number_bool : FuncData
  f_law_pot : Addr
  d_law_pot : FuncData
  f_law_take : Addr
  d_law_take : FuncData
  f_law_of : Addr
  d_law_of : FuncData
  f_law_drawn : Addr
  d_law_drawn : FuncData
  f_law_sum : Addr
  d_law_sum : FuncData
  f_law_less : Addr
  d_law_less : FuncData
  f_law_times : Addr
  d_law_times : FuncData
  f_law_turned : Addr
  d_law_turned : FuncData
  f_law_are_same : Addr
  d_law_are_same : FuncData
  f_law_sums_right : Addr
  d_law_sums_right : FuncData
  f_law_order_right : Addr
  d_law_order_right : FuncData
  f_law : Addr
  d_law : FuncData
structure Txt (K : PySem.W.Frag) (mg : Str → Option Value) (A : Ad) : Prop where
  g_Number : mg "Number" = some (.ref A.c_Number)
  cl_Number : Cls K A.c_Number
  M_Number : Mk K A.c_Number A.f_Number_init
  sf_Number : PySem.W.selfFirst K A.c_Number = true
  ca_Number : PySem.W.findIn K (.ref A.c_Number) "__class__" = some (some (.builtin "object.__class__"))
  cm_Number : PySem.W.mroIn K A.c_Number (.type "object") = some true
  n_Number_own_top : NoAttr K A.c_Number "own_top"
  n_Number_own_bottom : NoAttr K A.c_Number "own_bottom"
  cn : PySem.W.specialIn K (.builtin "object.__class__") "__get__" = some (some (.builtin "getset_descriptor.__get__"))
  ct : PySem.W.takesIn K (.builtin "object.__class__") = some true
  g_is_integer : mg "is_integer" = some (.ref A.f_is_integer)
  F_is_integer : Fun K "is_integer" "is_integer" s_is_integer A.f_is_integer A.d_is_integer
  b_is_integer : Binds K A.d_is_integer ["value"] []
  g_shared_divisor : mg "shared_divisor" = some (.ref A.f_shared_divisor)
  F_shared_divisor : Fun K "shared_divisor" "shared_divisor" s_shared_divisor A.f_shared_divisor A.d_shared_divisor
  b_shared_divisor : Binds K A.d_shared_divisor ["one", "other"] []
  m_Number_init : Meth K A.c_Number "__init__" A.f_Number_init
  F_Number_init : FunD K "__init__" "Number.__init__" (defArgs s_Number_init) (defBody s_Number_init) (defScope s_Number_init) [.int 1] [] A.f_Number_init A.d_Number_init
  P_Number_top : PropOf K A.c_Number "top" A.p_Number_top A.f_Number_top
  F_Number_top : Fun K "top" "Number.top" s_Number_top A.f_Number_top A.d_Number_top
  b_Number_top : Binds K A.d_Number_top ["self"] []
  P_Number_bottom : PropOf K A.c_Number "bottom" A.p_Number_bottom A.f_Number_bottom
  F_Number_bottom : Fun K "bottom" "Number.bottom" s_Number_bottom A.f_Number_bottom A.d_Number_bottom
  b_Number_bottom : Binds K A.d_Number_bottom ["self"] []
  m_Number_eq : Meth K A.c_Number "__eq__" A.f_Number_eq
  F_Number_eq : Fun K "__eq__" "Number.__eq__" s_Number_eq A.f_Number_eq A.d_Number_eq
  b_Number_eq : Binds K A.d_Number_eq ["self", "other"] []
  m_Number_is_less : Meth K A.c_Number "is_less" A.f_Number_is_less
  F_Number_is_less : Fun K "is_less" "Number.is_less" s_Number_is_less A.f_Number_is_less A.d_Number_is_less
  b_Number_is_less : Binds K A.d_Number_is_less ["self", "other"] []
  m_Number_add : Meth K A.c_Number "__add__" A.f_Number_add
  F_Number_add : Fun K "__add__" "Number.__add__" s_Number_add A.f_Number_add A.d_Number_add
  b_Number_add : Binds K A.d_Number_add ["self", "other"] []
  m_Number_sub : Meth K A.c_Number "__sub__" A.f_Number_sub
  F_Number_sub : Fun K "__sub__" "Number.__sub__" s_Number_sub A.f_Number_sub A.d_Number_sub
  b_Number_sub : Binds K A.d_Number_sub ["self", "other"] []
  m_Number_mul : Meth K A.c_Number "__mul__" A.f_Number_mul
  F_Number_mul : Fun K "__mul__" "Number.__mul__" s_Number_mul A.f_Number_mul A.d_Number_mul
  b_Number_mul : Binds K A.d_Number_mul ["self", "other"] []
  m_Number_neg : Meth K A.c_Number "__neg__" A.f_Number_neg
  F_Number_neg : Fun K "__neg__" "Number.__neg__" s_Number_neg A.f_Number_neg A.d_Number_neg
  b_Number_neg : Binds K A.d_Number_neg ["self"] []
  m_Number_abs : Meth K A.c_Number "__abs__" A.f_Number_abs
  F_Number_abs : Fun K "__abs__" "Number.__abs__" s_Number_abs A.f_Number_abs A.d_Number_abs
  b_Number_abs : Binds K A.d_Number_abs ["self"] []
  m_Number_bool : Meth K A.c_Number "__bool__" A.f_Number_bool
  F_Number_bool : Fun K "__bool__" "Number.__bool__" s_Number_bool A.f_Number_bool A.d_Number_bool
  b_Number_bool : Binds K A.d_Number_bool ["self"] []
  g_law_pot : mg "_law_pot" = some (.ref A.f_law_pot)
  F_law_pot : Fun K "_law_pot" "_law_pot" s_law_pot A.f_law_pot A.d_law_pot
  b_law_pot : Binds K A.d_law_pot ["script", "k"] []
  g_law_take : mg "_law_take" = some (.ref A.f_law_take)
  F_law_take : Fun K "_law_take" "_law_take" s_law_take A.f_law_take A.d_law_take
  b_law_take : Binds K A.d_law_take ["pot", "upto"] []
  g_law_of : mg "_law_of" = some (.ref A.f_law_of)
  F_law_of : Fun K "_law_of" "_law_of" s_law_of A.f_law_of A.d_law_of
  b_law_of : Binds K A.d_law_of ["pot", "some"] []
  g_law_drawn : mg "_law_drawn" = some (.ref A.f_law_drawn)
  F_law_drawn : Fun K "_law_drawn" "_law_drawn" s_law_drawn A.f_law_drawn A.d_law_drawn
  b_law_drawn : Binds K A.d_law_drawn ["pot"] []
  g_law_sum : mg "_law_sum" = some (.ref A.f_law_sum)
  F_law_sum : Fun K "_law_sum" "_law_sum" s_law_sum A.f_law_sum A.d_law_sum
  b_law_sum : Binds K A.d_law_sum ["one", "mate"] []
  g_law_less : mg "_law_less" = some (.ref A.f_law_less)
  F_law_less : Fun K "_law_less" "_law_less" s_law_less A.f_law_less A.d_law_less
  b_law_less : Binds K A.d_law_less ["one", "mate"] []
  g_law_times : mg "_law_times" = some (.ref A.f_law_times)
  F_law_times : Fun K "_law_times" "_law_times" s_law_times A.f_law_times A.d_law_times
  b_law_times : Binds K A.d_law_times ["one", "mate"] []
  g_law_turned : mg "_law_turned" = some (.ref A.f_law_turned)
  F_law_turned : Fun K "_law_turned" "_law_turned" s_law_turned A.f_law_turned A.d_law_turned
  b_law_turned : Binds K A.d_law_turned ["one"] []
  g_law_are_same : mg "_law_are_same" = some (.ref A.f_law_are_same)
  F_law_are_same : Fun K "_law_are_same" "_law_are_same" s_law_are_same A.f_law_are_same A.d_law_are_same
  b_law_are_same : Binds K A.d_law_are_same ["some"] []
  g_law_sums_right : mg "_law_sums_right" = some (.ref A.f_law_sums_right)
  F_law_sums_right : Fun K "_law_sums_right" "_law_sums_right" s_law_sums_right A.f_law_sums_right A.d_law_sums_right
  b_law_sums_right : Binds K A.d_law_sums_right ["a", "b", "c"] []
  g_law_order_right : mg "_law_order_right" = some (.ref A.f_law_order_right)
  F_law_order_right : Fun K "_law_order_right" "_law_order_right" s_law_order_right A.f_law_order_right A.d_law_order_right
  b_law_order_right : Binds K A.d_law_order_right ["a", "b", "c"] []
  F_law : Fun K "law" "law" s_law A.f_law A.d_law
  b_law : Binds K A.d_law ["script"] []
  z_isinstance : mg "isinstance" = none
  z_int : mg "int" = none
  z_bool : mg "bool" = none
  z_abs : mg "abs" = none
  z_len : mg "len" = none
  z_max : mg "max" = none
  z_min : mg "min" = none
  z_range : mg "range" = none
  z_all : mg "all" = none
  z_set : mg "set" = none
  z_sorted : mg "sorted" = none
  z_repr : mg "repr" = none
  kit_NumNum : PySem.W.kitOne K (.ref A.c_Number) (.ref A.c_Number) = some true
  ne_Number : PySem.W.findIn K (.ref A.c_Number) "__ne__" = some (some (.builtin "object.__ne__"))
section
variable {P : Program} {w : World} {K : PySem.W.Frag} {mg : Str → Option Value} {base : Heap} {A : Ad}
/-- an int is an integer -/
def spIsInt : Sp := fun vs H Q _ => ∃ i : Int, vs = [.int i] ∧ Q (.bl true) H
theorem ok_is_integer (T : Txt K mg A) : FnOk P w K mg base CX0 1 A.f_is_integer A.d_is_integer ["value"] spIsInt := by
  refine T.F_is_integer.ok sc_is_integer (fun vs H Q E h => ?_) (fun cdv B outer s H vs Q E hr h => ?_)
  · obtain ⟨i, rfl, _⟩ := h
    rfl
  · obtain ⟨i, rfl, k⟩ := h
    refine ⟨_, pss_one (ps_ret (pe_and (pe_callB call_isi (by rfl) T.z_isinstance (by decide +kernel) (pa_cons (pv 0) (pa_cons (pe_bltn (v := .ty "int") (by rfl) T.z_int (by decide +kernel) rfl) pa_nil)))
      (pe_one (pe_not (pe_callB call_isi (by rfl) T.z_isinstance (by decide +kernel) (pa_cons (pv 0) (pa_cons (pe_bltn (v := .ty "bool") (by rfl) T.z_bool (by decide +kernel) rfl) pa_nil))))))), ?_⟩
    refine ⟨_, rfl, _, _, _, _, true, rfl, .ty "int", .base (.int i), kit_ty (by decide +kernel), true, rfl, ?_⟩
    refine iteT ?_
    refine ⟨_, rfl, _, _, _, _, false, rfl, .ty "bool", .base (.int i), kit_ty (by decide +kernel), false, rfl, ?_⟩
    exact k
end
section
variable {P : Program} {w : World} {K : PySem.W.Frag} {mg : Str → Option Value} {base : Heap} {A : Ad}
def spGcd : Sp := fun vs H Q _ => ∃ a b : Nat, vs = [.int a, .int b] ∧ Q (.int (Nat.gcd a b : Nat)) H
def natAt (σ : L2.St) (i : Nat) : Nat := match σ[i]? with
  | some (some (.int k)) => k.toNat
  | _ => 0
theorem ok_shared_divisor (T : Txt K mg A) : FnOk P w K mg base CX0 1 A.f_shared_divisor A.d_shared_divisor ["one", "other"] spGcd := by
  refine T.F_shared_divisor.ok sc_shared_divisor (fun vs H Q E h => ?_) (fun cdv B outer s H vs Q E hr h => ?_)
  · obtain ⟨a, b, rfl, _⟩ := h
    rfl
  · obtain ⟨a, b, rfl, k⟩ := h
    refine ⟨_, pss_cons (ps_while PassesOwn.never (pt_cmpR op_ne (pv 1) pe_int (nomark _))
      (pss_one (ps_par (i := 0) (j := 1) rfl sc_shared_divisor.nd rfl rfl (by decide) rfl rfl (pa_cons (pv 1) (pa_cons (pe_op op_mod (pv 0) (pv 1)) pa_nil)) (by rfl))))
      (pss_one (ps_ret (pv 0))), ?_⟩
    refine while_by (fun σ H' => ∃ c d : Nat, σ = [some (.int c), some (.int d)] ∧ Nat.gcd c d = Nat.gcd a b ∧ H' = H) (fun σ _ => natAt σ 1) ⟨a, b, rfl, rfl, rfl⟩ ?_ ?_
    · rintro σ H' ⟨c, d, rfl, hg, rfl⟩
      refine ⟨_, rfl, rfl, _, rfl, ?_⟩
      by_cases hd : d = 0
      · subst hd
        refine iteF ?_
        rw [Nat.gcd_zero_right] at hg
        refine ⟨_, rfl, ?_⟩
        rw [hg]
        exact k
      · have hne : (!decide (V.int (d : Int) = V.int 0)) = true := by
          have : ¬ (V.int (d : Int) = V.int 0) := fun e => hd (by injection e with e; omega)
          rw [decide_eq_false this]
          rfl
        rw [hne]
        refine iteT ?_
        refine ⟨_, rfl, _, rfl, _, rfl, _, _, rfl, rfl, (by show (0 : Int) < d; omega), _, _, rfl, ⟨d, c % d, ?_, ?_, rfl⟩, ?_⟩
        · rfl
        · rw [← hg, Nat.gcd_comm c d, Nat.gcd_rec d c, Nat.gcd_comm]
        · show ((c : Int) % (d : Int)).toNat < (d : Int).toNat
          have := Int.emod_lt_of_pos (c : Int) (show (0 : Int) < d by omega)
          have := Int.emod_nonneg (c : Int) (show (d : Int) ≠ 0 by omega)
          omega
    · intro σ H Q Q' m h
      obtain ⟨v, e, q⟩ := h
      obtain ⟨z, b, e2, q2⟩ := q
      exact ⟨v, e, z, b, e2, m _ _ q2⟩
end
/-! ### Number -/
def nf (q : Rat) : List (Str × V) := [("own_top", .int q.num), ("own_bottom", .int (q.den : Int))]
def Num (C : Addr) (H : Hp) (a : Addr) (q : Rat) : Prop := ∃ dx, H a = some (.ins C dx (nf q))
theorem Num.mono {C : Addr} {H H' : Hp} {a : Addr} {q : Rat} (h : Num C H a q) (s : Same H H') : Num C H' a q := by
  obtain ⟨dx, e⟩ := h
  exact ⟨dx, s _ _ e⟩
theorem nf_put (q : Rat) : putF "own_bottom" (.int (q.den : Int)) (putF "own_top" (.int q.num) []) = nf q := by
  show (if ("own_top" : Str) = "own_bottom" then [(("own_bottom" : Str), V.int (q.den : Int))] else (("own_top" : Str), V.int q.num) :: putF "own_bottom" (.int (q.den : Int)) []) = nf q
  rw [if_neg (by decide +kernel)]
  rfl
theorem nf_top (q : Rat) : (nf q).lookup ("own_top" : Str) = some (.int q.num) := by simp [nf, List.lookup]
theorem nf_bot (q : Rat) : (nf q).lookup ("own_bottom" : Str) = some (.int (q.den : Int)) := by
  have : (("own_bottom" : Str) == ("own_top" : Str)) = false := by decide +kernel
  simp [nf, List.lookup, this]
theorem nf_no (q : Rat) {m : Str} (h1 : (m == ("own_top" : Str)) = false) (h2 : (m == ("own_bottom" : Str)) = false) : (nf q).lookup m = none := by simp [nf, List.lookup, h1, h2]
/-- a new instance and its dict, then its fields -/
theorem same_made {C : Addr} {H : Hp} {x dx : Addr} {fs gs : List (Str × V)} (nx : H x = none) (ndx : H dx = none) : Same H (upd (upd (upd H dx (.own x)) x (.ins C dx fs)) x (.ins C dx gs)) := fun b o e => by
  rw [upd_upd, upd_ne (ne_of_none e nx), upd_ne (ne_of_none e ndx)]
  exact e
theorem same_new {H : Hp} {x : Addr} {o : HO} (nx : H x = none) : Same H (upd H x o) := fun b u e => by
  rw [upd_ne (ne_of_none e nx)]
  exact e
theorem abs_nat (t : Int) : (if t < 0 then -t else t) = (t.natAbs : Int) := by split <;> omega
theorem dint_ne {b c : Int} (h : b ≠ c) : decide (V.int b = V.int c) = false := decide_eq_false fun e => h (by injection e)
theorem dint_eq {b c : Int} (h : b = c) : decide (V.int b = V.int c) = true := decide_eq_true (by rw [h])
section
variable {P : Program} {w : World} {K : PySem.W.Frag} {mg : Str → Option Value} {base : Heap} {A : Ad}
def spNumI (C : Addr) : Sp := fun vs H Q _ => ∃ (p dx : Addr) (t b : Int), vs = [.ref p, .int t, .int b] ∧ b ≠ 0 ∧ b.natAbs < 2 ^ 9000 ∧ H p = some (.ins C dx []) ∧ Q .non (upd H p (.ins C dx (nf (Rat.divInt t b))))
theorem ok_Number_init (T : Txt K mg A) : FnOk P w K mg base CX0 2 A.f_Number_init A.d_Number_init ["self", "top", "bottom"] (spNumI A.c_Number) := by
  refine T.F_Number_init.ok sc_Number_init (fun vs H Q E h => ?_) (fun cdv B outer s H vs Q E hr h => ?_)
  · obtain ⟨p, dx, t, b, rfl, _⟩ := h
    rfl
  · obtain ⟨p, dx, t, b, rfl, hb, hbd, hp, k⟩ := h
    refine ⟨_, pss_cons (ps_if (PW.pt (pw_or (pt_not (pt_val (pe_call (ok_is_integer T) hr rfl T.g_is_integer T.F_is_integer.kp T.b_is_integer .nil pass0 (pa_cons (pv 1) pa_nil))))
        (pw_or (pt_not (pt_val (pe_call (ok_is_integer T) hr rfl T.g_is_integer T.F_is_integer.kp T.b_is_integer .nil pass0 (pa_cons (pv 2) pa_nil))))
        (pw_or1 (pt_cmpR op_eq (pv 2) pe_int (nomark _)))))) pss_never pss_nil)
      (pss_cons (ps_set (i := 3) sc_Number_init.nd rfl (Or.inl rfl) (pe_call (ok_shared_divisor T) hr rfl T.g_shared_divisor T.F_shared_divisor.kp T.b_shared_divisor .nil pass0
        (pa_cons (pe_callB call_abs (by rfl) T.z_abs (by decide +kernel) (pa_cons (pv 1) pa_nil)) (pa_cons (pe_callB call_abs (by rfl) T.z_abs (by decide +kernel) (pa_cons (pv 2) pa_nil)) pa_nil))))
      (pss_cons (ps_if (pt_cmpR op_lt (pv 2) pe_int (nomark _)) (pss_one (ps_set (i := 3) sc_Number_init.nd rfl (Or.inl rfl) (pe_un un_neg (pv 3)))) pss_nil)
      (pss_cons (ps_fld (pv 0) (pe_op op_fdivG (pv 1) (pv 3)) rfl)
      (pss_one (ps_fld (pv 0) (pe_op op_fdivG (pv 2) (pv 3)) rfl))))), ?_⟩
    refine ⟨_, rfl, t, rfl, true, rfl, ?_⟩
    refine iteF ?_
    refine ⟨_, rfl, b, rfl, true, rfl, ?_⟩
    refine iteF ?_
    refine ⟨_, rfl, rfl, _, rfl, ?_⟩
    rw [dint_ne hb]
    refine iteF ?_
    refine ⟨_, rfl, t, rfl, _, rfl, b, rfl, t.natAbs, b.natAbs, by rw [abs_nat, abs_nat]; rfl, ?_⟩
    have hg0 : 0 < Nat.gcd t.natAbs b.natAbs := gcd_ne hb rfl
    have hgl : Nat.gcd t.natAbs b.natAbs ≤ b.natAbs := gcd_le hb rfl
    have hn : ∀ s : Int, s = (if b < 0 then -((Nat.gcd t.natAbs b.natAbs : Nat) : Int) else ((Nat.gcd t.natAbs b.natAbs : Nat) : Int)) → CDivG t s ∧ CDivG b s ∧ t.fdiv s = (Rat.divInt t b).num ∧ b.fdiv s = ((Rat.divInt t b).den : Int) := fun s e => by
      have h1 : s ≠ 0 := by rw [e]; split <;> omega
      have h2 : s.natAbs = Nat.gcd t.natAbs b.natAbs := by rw [e]; split <;> omega
      have h3 : s.natAbs.log2 < 9000 := log2_lt (by decide) (by rw [h2]; exact Nat.lt_of_le_of_lt hgl hbd)
      exact ⟨⟨h1, h3⟩, ⟨h1, h3⟩, by rw [e]; exact make_num hb rfl, by rw [e]; exact make_den hb rfl⟩
    refine ⟨_, rfl, _, _, rfl, rfl, _, rfl, ?_⟩
    have fin : ∀ s : Int, s = (if b < 0 then -((Nat.gcd t.natAbs b.natAbs : Nat) : Int) else ((Nat.gcd t.natAbs b.natAbs : Nat) : Int)) →
        (tSeq (sFld K (tVar 0) (tOp (rI CDivG fun i j => .int (i.fdiv j)) (tVar 1) (tVar 3)) "own_top") (sFld K (tVar 0) (tOp (rI CDivG fun i j => .int (i.fdiv j)) (tVar 2) (tVar 3)) "own_bottom")) { nx := fun _ H' => Q .non H', rt := Q }
          [some (.ref p), some (.int t), some (.int b), some (.int s)] H := fun s e => by
      obtain ⟨c1, c2, e1, e2⟩ := hn s e
      refine ⟨_, rfl, _, rfl, _, _, rfl, rfl, c1, _, rfl, p, A.c_Number, dx, [], rfl, hp, T.cl_Number, T.n_Number_own_top, (by decide), ?_⟩
      refine ⟨_, rfl, _, rfl, _, _, rfl, rfl, c2, _, rfl, p, A.c_Number, dx, _, rfl, upd_same, T.cl_Number, T.n_Number_own_bottom, (by show 1 < 1000; decide), ?_⟩
      dsimp only
      rw [upd_upd, e1, e2, nf_put]
      exact k
    refine ite2 (fun hlt => ?_) (fun hlt => ?_)
    · refine ⟨_, rfl, _, rfl, ?_⟩
      exact fin _ (by rw [if_pos (of_decide_eq_true hlt)])
    · exact fin _ (by rw [if_neg fun z => hlt (decide_eq_true z)])
/-- Number(t, b), both written -/
theorem b_Number (T : Txt K mg A) : Binds K A.d_Number_init ["self", "top", "bottom"] [] := by
  obtain ⟨ds, r, b⟩ := T.F_Number_init.binds1 (ps := ["self", "top", "bottom"]) 3 1 (by simp) rfl (fun T' kV dc pm an cd ct us its hu hi => by
    match us, hu, its, hi with
    | [u1, u2, u3], _, [i1], _ => exact ⟨_, rfl, rfl⟩)
  cases r
  exact b
end
/-! ### Number's methods -/
/-- Number(t, b) gives a new number -/
theorem made_num {C : Addr} {H : Hp} {x dx : Addr} (q : Rat) (nx : H x = none) (ndx : H dx = none) :
    Same H (upd (upd (upd H dx (.own x)) x (.ins C dx [])) x (.ins C dx (nf q))) ∧ Num C (upd (upd (upd H dx (.own x)) x (.ins C dx [])) x (.ins C dx (nf q))) x q :=
  ⟨same_made nx ndx, dx, upd_same⟩
section
variable {P : Program} {w : World} {K : PySem.W.Frag} {mg : Str → Option Value} {base : Heap} {A : Ad}
theorem ok_Number_top (T : Txt K mg A) : FnOk P w K mg base CX0 1 A.f_Number_top A.d_Number_top ["self"] (getSp A.c_Number "own_top") := by
  refine T.F_Number_top.ok sc_Number_top (fun vs H Q E h => ?_) (fun cdv B outer s H vs Q E hr h => ?_)
  · obtain ⟨a, dx, fs, v, rfl, _⟩ := h
    rfl
  · obtain ⟨a, dx, fs, v, rfl, e, l, k⟩ := h
    exact ⟨_, pss_one (ps_ret (pe_fld (pv 0) rfl)), _, rfl, a, _, dx, fs, v, rfl, e, T.cl_Number, T.n_Number_own_top, l, k⟩
end
section
variable {P : Program} {w : World} {K : PySem.W.Frag} {mg : Str → Option Value} {base : Heap} {A : Ad}
theorem ok_Number_bottom (T : Txt K mg A) : FnOk P w K mg base CX0 1 A.f_Number_bottom A.d_Number_bottom ["self"] (getSp A.c_Number "own_bottom") := by
  refine T.F_Number_bottom.ok sc_Number_bottom (fun vs H Q E h => ?_) (fun cdv B outer s H vs Q E hr h => ?_)
  · obtain ⟨a, dx, fs, v, rfl, _⟩ := h
    rfl
  · obtain ⟨a, dx, fs, v, rfl, e, l, k⟩ := h
    exact ⟨_, pss_one (ps_ret (pe_fld (pv 0) rfl)), _, rfl, a, _, dx, fs, v, rfl, e, T.cl_Number, T.n_Number_own_bottom, l, k⟩
end
section
variable {P : Program} {w : World} {K : PySem.W.Frag} {mg : Str → Option Value} {base : Heap} {A : Ad}
/-- == of two numbers -/
def spNumEq (C : Addr) : Sp := fun vs H Q _ => ∃ (a b : Addr) (p q : Rat), vs = [.ref a, .ref b] ∧ Num C H a p ∧ Num C H b q ∧ Q (.bl (decide (p = q))) H
theorem rat_eq_dec (p q : Rat) : decide (p = q) = (decide (V.int p.num = V.int q.num) && decide (V.int (p.den : Int) = V.int (q.den : Int))) := by
  by_cases h : p = q
  · subst h
    simp
  · rw [decide_eq_false h]
    by_cases h1 : p.num = q.num
    · have h2 : ¬ ((p.den : Int) = (q.den : Int)) := fun e => h (Rat.ext h1 (by omega))
      rw [dint_ne h2, Bool.and_false]
    · rw [dint_ne h1, Bool.false_and]
theorem ok_Number_eq (T : Txt K mg A) : FnOk P w K mg base CX0 1 A.f_Number_eq A.d_Number_eq ["self", "other"] (spNumEq A.c_Number) := by
  refine T.F_Number_eq.ok sc_Number_eq (fun vs H Q E h => ?_) (fun cdv B outer s H vs Q E hr h => ?_)
  · obtain ⟨a, b, p, q, rfl, _⟩ := h
    rfl
  · obtain ⟨a, b, p, q, rfl, ⟨dx, ha⟩, ⟨dy, hb⟩, k⟩ := h
    refine ⟨_, pss_one (ps_ret (pe_and (pe_callB call_isi (by rfl) T.z_isinstance (by decide +kernel) (pa_cons (pv 1) (pa_cons (pe_glob (v := .ref A.c_Number) (by rfl) T.g_Number rfl) pa_nil)))
      (pe_and (pe_cmpR op_eq (pe_fld (pv 0) rfl) (pe_fld (pv 1) rfl) (nomark _)) (pe_one (pe_cmpR op_eq (pe_fld (pv 0) rfl) (pe_fld (pv 1) rfl) (nomark _)))))), ?_⟩
    refine ⟨_, rfl, _, _, _, _, true, rfl, .own _, .base (.ins hb T.cl_Number T.ca_Number T.cn T.ct T.cm_Number), T.kit_NumNum, true, rfl, ?_⟩
    refine iteT ?_
    refine ⟨_, rfl, a, _, dx, _, _, rfl, ha, T.cl_Number, T.n_Number_own_top, nf_top p, _, rfl, b, _, dy, _, _, rfl, hb, T.cl_Number, T.n_Number_own_top, nf_top q, rfl, _, rfl, ?_⟩
    rw [rat_eq_dec] at k
    refine ite2 (fun h1 => ?_) (fun h1 => ?_)
    · rw [h1, Bool.true_and] at k
      exact ⟨_, rfl, a, _, dx, _, _, rfl, ha, T.cl_Number, T.n_Number_own_bottom, nf_bot p, _, rfl, b, _, dy, _, _, rfl, hb, T.cl_Number, T.n_Number_own_bottom, nf_bot q, rfl, k⟩
    · have h2 := Bool.eq_false_iff.mpr h1
      rw [h2, Bool.false_and] at k
      exact k
end
section
variable {P : Program} {w : World} {K : PySem.W.Frag} {mg : Str → Option Value} {base : Heap} {A : Ad}
/-- an operation of two numbers -/
def spNum2 (C : Addr) (f : Rat → Rat → Rat) : Sp := fun vs H Q _ => ∃ (a b : Addr) (p q : Rat), vs = [.ref a, .ref b] ∧ Num C H a p ∧ Num C H b q ∧ Bd 4000 p ∧ Bd 4000 q ∧
  ∀ x H', Same H H' → H x = none → Num C H' x (f p q) → Q (.ref x) H'
theorem bdw {m n : Nat} {i j : Int} (ha : i.natAbs < 2 ^ m) (hb : j.natAbs < 2 ^ n) (h0 : 0 < m := by decide) (h1 : 0 < n := by decide) (h : m + n ≤ 1000000 := by decide) : CMulW i j := wide_mul ha hb h0 h1 h
end
section
variable {P : Program} {w : World} {K : PySem.W.Frag} {mg : Str → Option Value} {base : Heap} {A : Ad}
theorem ok_Number_add (T : Txt K mg A) : FnOk P w K mg base CX0 4 A.f_Number_add A.d_Number_add ["self", "other"] (spNum2 A.c_Number (· + ·)) := by
  refine T.F_Number_add.ok sc_Number_add (fun vs H Q E h => ?_) (fun cdv B outer s H vs Q E hr h => ?_)
  · obtain ⟨a, b, p, q, rfl, _⟩ := h
    rfl
  · obtain ⟨a, b, p, q, rfl, ⟨dx, ha⟩, ⟨dy, hb⟩, bp, bq, k⟩ := h
    refine ⟨_, pss_cons (ps_set (i := 2) sc_Number_add.nd rfl (Or.inl rfl) (pe_op op_add (pe_op op_mulW (pe_fld (pv 0) rfl) (pe_fld (pv 1) rfl)) (pe_op op_mulW (pe_fld (pv 1) rfl) (pe_fld (pv 0) rfl))))
      (pss_one (ps_ret (pe_make T.M_Number (ok_Number_init T) hr rfl T.g_Number (b_Number T) .nil pass0 (pa_cons (pv 2) (pa_cons (pe_op op_mulW (pe_fld (pv 0) rfl) (pe_fld (pv 1) rfl)) pa_nil))))), ?_⟩
    refine ⟨_, rfl, a, _, dx, _, _, rfl, ha, T.cl_Number, T.n_Number_own_top, nf_top p, _, rfl, b, _, dy, _, _, rfl, hb, T.cl_Number, T.n_Number_own_bottom, nf_bot q, _, _, rfl, rfl, bdw bp.1 bq.den', ?_⟩
    refine ⟨_, rfl, b, _, dy, _, _, rfl, hb, T.cl_Number, T.n_Number_own_top, nf_top q, _, rfl, a, _, dx, _, _, rfl, ha, T.cl_Number, T.n_Number_own_bottom, nf_bot p, _, _, rfl, rfl, bdw bq.1 bp.den', _, _, rfl, rfl, ?_⟩
    refine ⟨_, rfl, _, rfl, a, _, dx, _, _, rfl, ha, T.cl_Number, T.n_Number_own_bottom, nf_bot p, _, rfl, b, _, dy, _, _, rfl, hb, T.cl_Number, T.n_Number_own_bottom, nf_bot q, _, _, rfl, rfl, bdw bp.den' bq.den', ?_⟩
    intro x dz nx ndz nex
    refine ⟨x, dz, _, _, rfl, Int.mul_ne_zero (den_ne p) (den_ne q), up_lt (imul_lt bp.den' bq.den') (by decide), upd_same, rfl, ?_⟩
    have e := made_num (C := A.c_Number) (p + q) nx ndz
    rw [← add_eq] at e
    exact k _ _ e.1 nx (by show Num _ _ _ (p + q); rw [← add_eq]; exact e.2)
end
section
variable {P : Program} {w : World} {K : PySem.W.Frag} {mg : Str → Option Value} {base : Heap} {A : Ad}
theorem ok_Number_sub (T : Txt K mg A) : FnOk P w K mg base CX0 4 A.f_Number_sub A.d_Number_sub ["self", "other"] (spNum2 A.c_Number (· - ·)) := by
  refine T.F_Number_sub.ok sc_Number_sub (fun vs H Q E h => ?_) (fun cdv B outer s H vs Q E hr h => ?_)
  · obtain ⟨a, b, p, q, rfl, _⟩ := h
    rfl
  · obtain ⟨a, b, p, q, rfl, ⟨dx, ha⟩, ⟨dy, hb⟩, bp, bq, k⟩ := h
    refine ⟨_, pss_cons (ps_set (i := 2) sc_Number_sub.nd rfl (Or.inl rfl) (pe_op op_sub (pe_op op_mulW (pe_fld (pv 0) rfl) (pe_fld (pv 1) rfl)) (pe_op op_mulW (pe_fld (pv 1) rfl) (pe_fld (pv 0) rfl))))
      (pss_one (ps_ret (pe_make T.M_Number (ok_Number_init T) hr rfl T.g_Number (b_Number T) .nil pass0 (pa_cons (pv 2) (pa_cons (pe_op op_mulW (pe_fld (pv 0) rfl) (pe_fld (pv 1) rfl)) pa_nil))))), ?_⟩
    refine ⟨_, rfl, a, _, dx, _, _, rfl, ha, T.cl_Number, T.n_Number_own_top, nf_top p, _, rfl, b, _, dy, _, _, rfl, hb, T.cl_Number, T.n_Number_own_bottom, nf_bot q, _, _, rfl, rfl, bdw bp.1 bq.den', ?_⟩
    refine ⟨_, rfl, b, _, dy, _, _, rfl, hb, T.cl_Number, T.n_Number_own_top, nf_top q, _, rfl, a, _, dx, _, _, rfl, ha, T.cl_Number, T.n_Number_own_bottom, nf_bot p, _, _, rfl, rfl, bdw bq.1 bp.den', _, _, rfl, rfl, ?_⟩
    refine ⟨_, rfl, _, rfl, a, _, dx, _, _, rfl, ha, T.cl_Number, T.n_Number_own_bottom, nf_bot p, _, rfl, b, _, dy, _, _, rfl, hb, T.cl_Number, T.n_Number_own_bottom, nf_bot q, _, _, rfl, rfl, bdw bp.den' bq.den', ?_⟩
    intro x dz nx ndz nex
    refine ⟨x, dz, _, _, rfl, Int.mul_ne_zero (den_ne p) (den_ne q), up_lt (imul_lt bp.den' bq.den') (by decide), upd_same, rfl, ?_⟩
    have e := made_num (C := A.c_Number) (p - q) nx ndz
    rw [← sub_eq] at e
    exact k _ _ e.1 nx (by show Num _ _ _ (p - q); rw [← sub_eq]; exact e.2)
end
section
variable {P : Program} {w : World} {K : PySem.W.Frag} {mg : Str → Option Value} {base : Heap} {A : Ad}
theorem ok_Number_mul (T : Txt K mg A) : FnOk P w K mg base CX0 4 A.f_Number_mul A.d_Number_mul ["self", "other"] (spNum2 A.c_Number (· * ·)) := by
  refine T.F_Number_mul.ok sc_Number_mul (fun vs H Q E h => ?_) (fun cdv B outer s H vs Q E hr h => ?_)
  · obtain ⟨a, b, p, q, rfl, _⟩ := h
    rfl
  · obtain ⟨a, b, p, q, rfl, ⟨dx, ha⟩, ⟨dy, hb⟩, bp, bq, k⟩ := h
    refine ⟨_, pss_one (ps_ret (pe_make T.M_Number (ok_Number_init T) hr rfl T.g_Number (b_Number T) .nil pass0 (pa_cons (pe_op op_mulW (pe_fld (pv 0) rfl) (pe_fld (pv 1) rfl)) (pa_cons (pe_op op_mulW (pe_fld (pv 0) rfl) (pe_fld (pv 1) rfl)) pa_nil)))), ?_⟩
    refine ⟨_, rfl, a, _, dx, _, _, rfl, ha, T.cl_Number, T.n_Number_own_top, nf_top p, _, rfl, b, _, dy, _, _, rfl, hb, T.cl_Number, T.n_Number_own_top, nf_top q, _, _, rfl, rfl, bdw bp.1 bq.1, ?_⟩
    refine ⟨_, rfl, a, _, dx, _, _, rfl, ha, T.cl_Number, T.n_Number_own_bottom, nf_bot p, _, rfl, b, _, dy, _, _, rfl, hb, T.cl_Number, T.n_Number_own_bottom, nf_bot q, _, _, rfl, rfl, bdw bp.den' bq.den', ?_⟩
    intro x dz nx ndz nex
    refine ⟨x, dz, _, _, rfl, Int.mul_ne_zero (den_ne p) (den_ne q), up_lt (imul_lt bp.den' bq.den') (by decide), upd_same, rfl, ?_⟩
    have e := made_num (C := A.c_Number) (p * q) nx ndz
    rw [← mul_eq] at e
    exact k _ _ e.1 nx (by show Num _ _ _ (p * q); rw [← mul_eq]; exact e.2)
end
/-! ### Number: -x, abs, bool, is_less; Number(t) -/
def rabs (q : Rat) : Rat := if q < 0 then -q else q
theorem Bd.rabs {n : Nat} {q : Rat} (h : Bd n q) : Bd n (rabs q) := by
  unfold Q.rabs
  split
  · exact h.neg
  · exact h
theorem num_neg_iff (q : Rat) : q.num < 0 ↔ q < 0 := by
  have h := Rat.num_nonneg (q := q)
  have h2 : q < 0 ↔ ¬ 0 ≤ q := (Rat.not_le).symm
  rw [h2, ← h]
  omega
theorem abs_eq (q : Rat) : Rat.divInt (if q.num < 0 then -q.num else q.num) q.den = rabs q := by
  unfold rabs
  by_cases h : q < 0
  · rw [if_pos h, if_pos ((num_neg_iff q).mpr h), neg_eq]
  · rw [if_neg h, if_neg fun z => h ((num_neg_iff q).mp z), Rat.num_divInt_den]
theorem rabs_neg (q : Rat) : rabs (-q) = rabs q := by
  unfold rabs
  split <;> split <;> grind
theorem less_eq (p q : Rat) : decide (p.num * (q.den : Int) < q.num * (p.den : Int)) = decide (p < q) := decide_eq_decide.mpr (Rat.lt_iff p q).symm
theorem truth_eq (q : Rat) : (q.num != 0) = !decide (q = 0) := by
  by_cases h : q = 0
  · subst h
    rfl
  · rw [decide_eq_false h]
    simpa using num_ne h
section
variable {P : Program} {w : World} {K : PySem.W.Frag} {mg : Str → Option Value} {base : Heap} {A : Ad}
/-- an operation of one number -/
def spNum1 (C : Addr) (f : Rat → Rat) : Sp := fun vs H Q _ => ∃ (a : Addr) (p : Rat), vs = [.ref a] ∧ Num C H a p ∧ Bd 8000 p ∧ ∀ x H', Same H H' → H x = none → Num C H' x (f p) → Q (.ref x) H'
theorem ok_Number_neg (T : Txt K mg A) : FnOk P w K mg base CX0 4 A.f_Number_neg A.d_Number_neg ["self"] (spNum1 A.c_Number (- ·)) := by
  refine T.F_Number_neg.ok sc_Number_neg (fun vs H Q E h => ?_) (fun cdv B outer s H vs Q E hr h => ?_)
  · obtain ⟨a, p, rfl, _⟩ := h
    rfl
  · obtain ⟨a, p, rfl, ⟨dx, ha⟩, bp, k⟩ := h
    refine ⟨_, pss_one (ps_ret (pe_make T.M_Number (ok_Number_init T) hr rfl T.g_Number (b_Number T) .nil pass0 (pa_cons (pe_un un_neg (pe_fld (pv 0) rfl)) (pa_cons (pe_fld (pv 0) rfl) pa_nil)))), ?_⟩
    refine ⟨_, rfl, a, _, dx, _, _, rfl, ha, T.cl_Number, T.n_Number_own_top, nf_top p, _, rfl, _, rfl, a, _, dx, _, _, rfl, ha, T.cl_Number, T.n_Number_own_bottom, nf_bot p, ?_⟩
    intro x dz nx ndz nex
    refine ⟨x, dz, _, _, rfl, den_ne p, up_lt bp.den' (by decide), upd_same, rfl, ?_⟩
    have e := made_num (C := A.c_Number) (-p) nx ndz
    rw [← neg_eq] at e
    exact k _ _ e.1 nx (by show Num _ _ _ (-p); rw [← neg_eq]; exact e.2)
theorem ok_Number_abs (T : Txt K mg A) : FnOk P w K mg base CX0 4 A.f_Number_abs A.d_Number_abs ["self"] (spNum1 A.c_Number rabs) := by
  refine T.F_Number_abs.ok sc_Number_abs (fun vs H Q E h => ?_) (fun cdv B outer s H vs Q E hr h => ?_)
  · obtain ⟨a, p, rfl, _⟩ := h
    rfl
  · obtain ⟨a, p, rfl, ⟨dx, ha⟩, bp, k⟩ := h
    refine ⟨_, pss_one (ps_ret (pe_make T.M_Number (ok_Number_init T) hr rfl T.g_Number (b_Number T) .nil pass0 (pa_cons (pe_callB call_abs (by rfl) T.z_abs (by decide +kernel) (pa_cons (pe_fld (pv 0) rfl) pa_nil)) (pa_cons (pe_fld (pv 0) rfl) pa_nil)))), ?_⟩
    refine ⟨_, rfl, a, _, dx, _, _, rfl, ha, T.cl_Number, T.n_Number_own_top, nf_top p, _, rfl, _, rfl, a, _, dx, _, _, rfl, ha, T.cl_Number, T.n_Number_own_bottom, nf_bot p, ?_⟩
    intro x dz nx ndz nex
    refine ⟨x, dz, _, _, rfl, den_ne p, up_lt bp.den' (by decide), upd_same, rfl, ?_⟩
    have e := made_num (C := A.c_Number) (rabs p) nx ndz
    rw [← abs_eq] at e
    exact k _ _ e.1 nx (by rw [← abs_eq]; exact e.2)
def spNumBool (C : Addr) : Sp := fun vs H Q _ => ∃ (a : Addr) (p : Rat), vs = [.ref a] ∧ Num C H a p ∧ Q (.bl (!decide (p = 0))) H
theorem ok_Number_bool (T : Txt K mg A) : FnOk P w K mg base CX0 1 A.f_Number_bool A.d_Number_bool ["self"] (spNumBool A.c_Number) := by
  refine T.F_Number_bool.ok sc_Number_bool (fun vs H Q E h => ?_) (fun cdv B outer s H vs Q E hr h => ?_)
  · obtain ⟨a, p, rfl, _⟩ := h
    rfl
  · obtain ⟨a, p, rfl, ⟨dx, ha⟩, k⟩ := h
    refine ⟨_, pss_one (ps_ret (pe_callTy call_bool1 (by rfl) T.z_bool (by decide +kernel) (pa_cons (pe_fld (pv 0) rfl) pa_nil))), ?_⟩
    refine ⟨_, rfl, a, _, dx, _, _, rfl, ha, T.cl_Number, T.n_Number_own_top, nf_top p, Or.inl ⟨_, rfl, ?_⟩⟩
    rw [truth_eq]
    exact k
def spNumLess (C : Addr) : Sp := fun vs H Q _ => ∃ (a b : Addr) (p q : Rat), vs = [.ref a, .ref b] ∧ Num C H a p ∧ Num C H b q ∧ Bd 8000 p ∧ Bd 8000 q ∧ Q (.bl (decide (p < q))) H
theorem ok_Number_is_less (T : Txt K mg A) : FnOk P w K mg base CX0 1 A.f_Number_is_less A.d_Number_is_less ["self", "other"] (spNumLess A.c_Number) := by
  refine T.F_Number_is_less.ok sc_Number_is_less (fun vs H Q E h => ?_) (fun cdv B outer s H vs Q E hr h => ?_)
  · obtain ⟨a, b, p, q, rfl, _⟩ := h
    rfl
  · obtain ⟨a, b, p, q, rfl, ⟨dx, ha⟩, ⟨dy, hb⟩, bp, bq, k⟩ := h
    refine ⟨_, pss_one (ps_ret (pe_cmpR op_lt (pe_op op_mulW (pe_fld (pv 0) rfl) (pe_fld (pv 1) rfl)) (pe_op op_mulW (pe_fld (pv 1) rfl) (pe_fld (pv 0) rfl)) (nomark _))), ?_⟩
    refine ⟨_, rfl, a, _, dx, _, _, rfl, ha, T.cl_Number, T.n_Number_own_top, nf_top p, _, rfl, b, _, dy, _, _, rfl, hb, T.cl_Number, T.n_Number_own_bottom, nf_bot q, _, _, rfl, rfl, bdw bp.1 bq.den', ?_⟩
    refine ⟨_, rfl, b, _, dy, _, _, rfl, hb, T.cl_Number, T.n_Number_own_top, nf_top q, _, rfl, a, _, dx, _, _, rfl, ha, T.cl_Number, T.n_Number_own_bottom, nf_bot p, _, _, rfl, rfl, bdw bq.1 bp.den', _, _, rfl, rfl, ?_⟩
    show Q (.bl (decide (_ < _))) H
    rw [less_eq]
    exact k
/-- Number(t) -/
theorem b1_Number (T : Txt K mg A) : ∃ ds, Vals [V.int 1] ds ∧ Binds K A.d_Number_init ["self", "top", "bottom"] ds := by
  obtain ⟨ds, r, b⟩ := T.F_Number_init.binds1 (ps := ["self", "top", "bottom"]) 2 0 (by simp) rfl (fun T' kV dc pm an cd ct us its hu hi => by
    match us, hu, its, hi with
    | [u1, u2], _, [i1], _ => exact ⟨_, rfl, rfl⟩)
  exact ⟨ds, r, b⟩
end
/-! ### draws -/
/-- a pot at p, of which n numbers at most were drawn behind its own digits -/
def Pot (H : Hp) (p : Addr) (n : Nat) : Prop := ∃ own mix c : Int, H p = some (.lst [.int own, .int mix, .int c]) ∧ 0 ≤ own ∧ 0 ≤ mix ∧ mix < 2305843009213693921 ∧ 0 ≤ c ∧ c ≤ n
theorem Pot.mono {H : Hp} {p : Addr} {m n : Nat} (h : Pot H p m) (l : m ≤ n) : Pot H p n := by
  obtain ⟨own, mix, c, e, h1, h2, h3, h4, h5⟩ := h
  exact ⟨own, mix, c, e, h1, h2, h3, h4, by omega⟩
theorem Pot.same {H H' : Hp} {p : Addr} {n : Nat} (h : Pot H p n) (s : Same H H') : Pot H' p n := by
  obtain ⟨own, mix, c, e, h⟩ := h
  exact ⟨own, mix, c, s _ _ e, h⟩
/-- all but what stands at p is as it was -/
def SameBut (p : Addr) (H H' : Hp) : Prop := ∀ b o, H b = some o → b ≠ p → H' b = some o
theorem SameBut.refl (p : Addr) (H : Hp) : SameBut p H H := fun _ _ e _ => e
theorem SameBut.trans {p : Addr} {H H1 H2 : Hp} (a : SameBut p H H1) (b : SameBut p H1 H2) : SameBut p H H2 := fun c o e n => b c o (a c o e n) n
theorem SameBut.same {p : Addr} {H H1 H2 : Hp} (a : SameBut p H H1) (b : Same H1 H2) : SameBut p H H2 := fun c o e n => b c o (a c o e n)
theorem Same.but {H H1 : Hp} (p : Addr) (b : Same H H1) : SameBut p H H1 := fun c o e _ => b c o e
theorem but_upd {p : Addr} {H : Hp} {o : HO} : SameBut p H (upd H p o) := fun c u e n => by rw [upd_ne n]; exact e
theorem Num.but {C p : Addr} {H H' : Hp} {a : Addr} {q : Rat} (h : Num C H a q) (s : SameBut p H H') (hp : ∃ xs, H p = some (.lst xs)) : Num C H' a q := by
  obtain ⟨dx, e⟩ := h
  obtain ⟨xs, ep⟩ := hp
  exact ⟨dx, s _ _ e (ne_of e ep (by intro z; cases z))⟩
theorem tup_but {p a : Addr} {H H' : Hp} {ys : List V} (h : H a = some (.tup ys)) (s : SameBut p H H') (hp : ∃ xs, H p = some (.lst xs)) : H' a = some (.tup ys) := by
  obtain ⟨xs, ep⟩ := hp
  exact s _ _ h (ne_of h ep (by intro z; cases z))
theorem Pot.lst {H : Hp} {p : Addr} {n : Nat} (h : Pot H p n) : ∃ xs, H p = some (.lst xs) := by
  obtain ⟨own, mix, c, e, _⟩ := h
  exact ⟨_, e⟩
theorem prime_at (c : Int) (h : 0 ≤ c) : ∃ q : Int, atI [V.int 2147483647, V.int 2147483629, V.int 2147483587, V.int 2147483579, V.int 2147483563] (c % 5) = some (.int q) ∧ 0 < q ∧ q < 2 ^ 32 := by
  have h1 := Int.emod_nonneg c (show (5 : Int) ≠ 0 by decide)
  have h2 := Int.emod_lt_of_pos c (show (0 : Int) < 5 by decide)
  have h3 : c % 5 = 0 ∨ c % 5 = 1 ∨ c % 5 = 2 ∨ c % 5 = 3 ∨ c % 5 = 4 := by omega
  rcases h3 with e | e | e | e | e <;> rw [e]
  · exact ⟨_, rfl, by decide, by decide⟩
  · exact ⟨_, rfl, by decide, by decide⟩
  · exact ⟨_, rfl, by decide, by decide⟩
  · exact ⟨_, rfl, by decide, by decide⟩
  · exact ⟨_, rfl, by decide, by decide⟩
theorem at_mem {α : Type} {xs : List α} {i : Int} (h0 : 0 ≤ i) (h1 : i < xs.length) : ∃ v, atI xs i = some v ∧ v ∈ xs := by
  have hl : i.toNat < xs.length := by omega
  have e : ((i.toNat : Nat) : Int) = i := by omega
  have h := atI_nat (xs := xs) (j := i.toNat) (v := xs[i.toNat]) (by simp [hl])
  rw [e] at h
  exact ⟨_, h, List.getElem_mem hl⟩
theorem bit_lt (c : Bool) : -(2 ^ 64) < (if c = true then (1 : Int) else 0) ∧ (if c = true then (1 : Int) else 0) < 2 ^ 64 := by cases c <;> decide
theorem bit_nn (c : Bool) : 0 ≤ (if c = true then (1 : Int) else 0) := by cases c <;> decide
/-- the answer is an int, whichever way -/
theorem with_int {Q : VK} {te : TE} {σ : L2.St} {H : Hp} (h : (∀ i : Int, Q (.int i) H) → te σ H Q) (hq : ∀ i : Int, Q (.int i) H) : te σ H Q := h hq
theorem SameBut.free {p x : Addr} {H H' : Hp} (a : SameBut p H H') (hp : ∃ xs, H p = some (.lst xs)) (hq : ∃ xs, H' p = some (.lst xs)) (h : H' x = none) : H x = none := by
  cases e : H x with
  | none => rfl
  | some o =>
    by_cases n : x = p
    · obtain ⟨xs, ex⟩ := hq
      rw [n, ex] at h
      cases h
    · rw [a x o e n] at h
      cases h
section
variable {P : Program} {w : World} {K : PySem.W.Frag} {mg : Str → Option Value} {base : Heap} {A : Ad}
/-- _law_pot(script, k) -/
def spPot (K : PySem.W.Frag) : Sp := fun vs H Q _ => ∃ (a : Addr) (ns : List Int) (k : Int), vs = [.ref a, .int k] ∧ SqL K H a (ns.map V.int) ∧ 0 ≤ k ∧ k ≤ 100 ∧ ∀ p H', Same H H' → H p = none → Pot H' p 0 → Q (.ref p) H'
theorem ok_law_pot (T : Txt K mg A) : FnOk P w K mg base CX0 1 A.f_law_pot A.d_law_pot ["script", "k"] (spPot K) := by
  refine T.F_law_pot.ok sc_law_pot (fun vs H Q E h => ?_) (fun cdv B outer s H vs Q E hr h => ?_)
  · obtain ⟨a, ns, k, rfl, _⟩ := h
    rfl
  · obtain ⟨a, ns, k, rfl, hS, k0, k1, kq⟩ := h
    refine ⟨_, pss_cons (ps_set (i := 2) sc_law_pot.nd rfl (Or.inl rfl) (pe_ifExp (pt_cmpR op_lt (pv 1) (pe_callB call_len_seq (by rfl) T.z_len (by decide +kernel) (pa_cons (pv 0) pa_nil)) (nomark _))
        (pe_callTy call_int1 (by rfl) T.z_int (by decide +kernel) (pa_cons (pe_ix ix_list (pv 0) (pv 1) (fun _ _ => rfl)) pa_nil)) (pe_op op_add (pe_op op_mul pe_int (pv 1)) pe_int)))
      (pss_cons (ps_set (i := 3) sc_law_pot.nd rfl (Or.inl rfl) (pe_op op_mul (pe_op op_mod (pe_callTy call_int1 (by rfl) T.z_int (by decide +kernel) (pa_cons (pe_callB call_abs (by rfl) T.z_abs (by decide +kernel) (pa_cons (pv 2) pa_nil)) pa_nil))
          (pe_op op_powW (pe_op op_powW pe_int pe_int) pe_int)) (pe_callTy call_int1 (by rfl) T.z_int (by decide +kernel) (pa_cons (pe_cmpR op_ge (pe_callB call_abs (by rfl) T.z_abs (by decide +kernel) (pa_cons (pv 2) pa_nil)) (pe_op op_powW pe_int pe_int) (nomark _)) pa_nil))))
      (pss_one (ps_ret (pe_lst (pa_cons (pv 3) (pa_cons (pe_op op_mod (pe_callTy call_int1 (by rfl) T.z_int (by decide +kernel) (pa_cons (pe_op op_add (pe_op op_add (pe_op op_mul (pe_op op_mod (pe_callTy call_int1 (by rfl) T.z_int (by decide +kernel) (pa_cons (pv 2) pa_nil)) pe_int) pe_int)
          (pe_op op_mul (pe_op op_mul pe_int (pv 1)) (pv 1))) pe_int) pa_nil)) pe_int) (pa_cons pe_int pa_nil))))))), ?_⟩
    refine with_int (fun rest => ?_) (fun cell => ?_)
    · refine ⟨_, rfl, _, rfl, a, _, rfl, Or.inl hS, _, _, rfl, rfl, _, rfl, ?_⟩
      refine ite2 (fun e => ?_) (fun e => ?_)
      · have hk := of_decide_eq_true e
        have hk' : k < (ns.map V.int).length := hk
        obtain ⟨v, hv, hm⟩ := at_mem (xs := ns.map V.int) k0 hk'
        obtain ⟨n, _, rfl⟩ := List.mem_map.mp hm
        exact ⟨_, rfl, _, rfl, a, _, _, _, rfl, rfl, hS, hv, Or.inl ⟨n, rfl, rest n⟩⟩
      · exact ⟨_, rfl, _, _, rfl, rfl, Or.inl (by decide), _, _, rfl, rfl, rest _⟩
    · refine ⟨_, rfl, _, rfl, Or.inl ⟨_, rfl, _, _, rfl, rfl, ⟨by decide, by decide⟩, _, _, rfl, rfl, ⟨by decide, by decide +kernel⟩, _, _, rfl, rfl, Int.pow_pos (Int.pow_pos (by decide)), ?_⟩⟩
      refine ⟨_, rfl, _, rfl, _, _, rfl, rfl, ⟨by decide, by decide⟩, _, _, rfl, rfl, Or.inr ⟨_, rfl, _, _, rfl, rfl, Or.inr (bit_lt _), ?_⟩⟩
      refine ⟨_, rfl, _, rfl, Or.inl ⟨_, rfl, _, _, rfl, rfl, (by show (0 : Int) < 2305843009213693951; decide), _, _, rfl, rfl, Or.inr (by decide), _, rfl, _, _, rfl, rfl, Or.inl (by decide), _, rfl, _, _, rfl, rfl, Or.inr ⟨by omega, by omega⟩, _, _, rfl, rfl, _, _, rfl, rfl, Or.inl ⟨_, rfl, _, _, rfl, rfl, (by show (0 : Int) < 2305843009213693921; decide), ?_⟩⟩⟩
      refine ⟨by show 3 ≤ sizeLine; decide, fun p hp => ?_⟩
      refine kq p _ (same_new hp) hp ⟨_, _, _, upd_same, ?_, Int.emod_nonneg _ (by decide), Int.emod_lt_of_pos _ (by decide), Int.le_refl _, by decide⟩
      exact Int.mul_nonneg (Int.emod_nonneg _ (Int.ne_of_gt (Int.pow_pos (Int.pow_pos (by decide))))) (bit_nn _)
end
section
variable {P : Program} {w : World} {K : PySem.W.Frag} {mg : Str → Option Value} {base : Heap} {A : Ad}
/-- _law_take(pot, upto): some number from 0 to upto - 1 -/
def spTake : Sp := fun vs H Q _ => ∃ (p : Addr) (u : Int) (n : Nat), vs = [.ref p, .int u] ∧ 0 < u ∧ u.natAbs < 2 ^ 9000 ∧ Pot H p n ∧ n ≤ 100000 ∧ ∀ r H', 0 ≤ r → r < u → Pot H' p (n + 1) → SameBut p H H' → Q (.int r) H'
theorem ok_law_take (T : Txt K mg A) : FnOk P w K mg base CX0 1 A.f_law_take A.d_law_take ["pot", "upto"] spTake := by
  refine T.F_law_take.ok sc_law_take (fun vs H Q E h => ?_) (fun cdv B outer s H vs Q E hr h => ?_)
  · obtain ⟨p, u, n, rfl, _⟩ := h
    rfl
  · obtain ⟨p, u, n, rfl, u0, u1, ⟨own, mix, c, hp, o0, m0, m1, c0, c1⟩, hn, k⟩ := h
    refine ⟨_, pss_cons (ps_if (pt_cmpR op_gt (pe_ix ix_list (pv 0) pe_int (fun _ _ => rfl)) pe_int (nomark _))
        (pss_cons (ps_set (i := 2) sc_law_take.nd rfl (Or.inl rfl) (pe_op op_mod (pe_callTy call_int1 (by rfl) T.z_int (by decide +kernel) (pa_cons (pe_ix ix_list (pv 0) pe_int (fun _ _ => rfl)) pa_nil)) (pv 1)))
        (pss_cons (ps_asg (pe_op op_fdivG (pe_ix ix_list (pv 0) pe_int (fun _ _ => rfl)) (pv 1)) (pg_sub (pv 0) pe_int set_list))
        (pss_one (ps_ret (pv 2))))) pss_nil)
      (pss_cons (ps_asg (pe_op op_add (pe_ix ix_list (pv 0) pe_int (fun _ _ => rfl)) pe_int) (pg_sub (pv 0) pe_int set_list))
      (pss_cons (ps_set (i := 3) sc_law_take.nd rfl (Or.inl rfl) (pe_ix ix_list (pe_lst (pa_cons pe_int (pa_cons pe_int (pa_cons pe_int (pa_cons pe_int (pa_cons pe_int pa_nil))))))
          (pe_op op_mod (pe_callTy call_int1 (by rfl) T.z_int (by decide +kernel) (pa_cons (pe_ix ix_list (pv 0) pe_int (fun _ _ => rfl)) pa_nil)) pe_int) (fun _ _ => rfl)))
      (pss_cons (ps_set (i := 4) sc_law_take.nd rfl (Or.inl rfl) (pe_op op_mod (pe_callTy call_int1 (by rfl) T.z_int (by decide +kernel) (pa_cons (pe_op op_pow (pe_op op_add (pe_op op_add (pe_ix ix_list (pv 0) pe_int (fun _ _ => rfl))
          (pe_op op_mul (pe_op op_mul pe_int (pe_ix ix_list (pv 0) pe_int (fun _ _ => rfl))) (pe_ix ix_list (pv 0) pe_int (fun _ _ => rfl)))) pe_int) pe_int) pa_nil)) (pv 3)))
      (pss_one (ps_ret (pe_op op_mod (pe_callTy call_int1 (by rfl) T.z_int (by decide +kernel) (pa_cons (pe_op op_fdiv (pe_op op_mul (pv 4) (pe_op op_add (pe_op op_mod (pe_callTy call_int1 (by rfl) T.z_int (by decide +kernel) (pa_cons (pv 4) pa_nil)) pe_int)
          (pe_op op_mul pe_int (pe_ix ix_list (pv 0) pe_int (fun _ _ => rfl))))) pe_int) pa_nil)) (pv 1))))))), ?_⟩
    refine ⟨_, rfl, p, _, _, _, rfl, rfl, SqL.of hp, rfl, _, _, rfl, rfl, _, rfl, ?_⟩
    refine ite2 (fun e => ?_) (fun e => ?_)
    · have ho : 0 < own := of_decide_eq_true e
      refine ⟨_, rfl, p, _, _, _, rfl, rfl, SqL.of hp, rfl, Or.inl ⟨_, rfl, _, rfl, _, _, rfl, rfl, u0, ?_⟩⟩
      refine ⟨_, rfl, p, _, _, _, rfl, rfl, SqL.of hp, rfl, _, rfl, _, _, rfl, rfl, ⟨by omega, log2_lt (by decide) u1⟩, _, rfl, ?_⟩
      refine ⟨p, _, _, 0, rfl, rfl, hp, rfl, _, rfl, ?_⟩
      refine k _ _ (Int.emod_nonneg _ (by omega)) (Int.emod_lt_of_pos _ u0) ⟨_, _, _, upd_same, ?_, m0, m1, c0, by omega⟩ but_upd
      rw [Int.fdiv_eq_ediv_of_nonneg _ (by omega)]
      exact Int.ediv_nonneg o0 (by omega)
    · refine ⟨_, rfl, p, _, _, _, rfl, rfl, SqL.of hp, rfl, _, _, rfl, rfl, _, rfl, p, _, _, 2, rfl, rfl, hp, rfl, ?_⟩
      refine ⟨by show 5 ≤ sizeLine; decide, fun l hl => ?_⟩
      have npl : p ≠ l := ne_of_none upd_same hl
      have hp1 : ∀ {o : HO}, (upd (upd H p (.lst [.int own, .int mix, .int (c + 1)])) l o) p = some (.lst [.int own, .int mix, .int (c + 1)]) := by
        intro o
        rw [upd_ne npl]
        exact upd_same
      obtain ⟨pr, e1, e2, e3⟩ := prime_at (c + 1) (by omega)
      refine ⟨_, rfl, p, _, _, _, rfl, rfl, SqL.of hp1, rfl, Or.inl ⟨_, rfl, _, _, rfl, rfl, (by show (0 : Int) < 5; decide), l, _, _, _, rfl, rfl, SqL.of upd_same, e1, ?_⟩⟩
      have hc : (c + 1) * (c + 1) ≤ 100001 * 100001 := Int.mul_le_mul (by omega) (by omega) (by omega) (by decide)
      have hc' : 0 ≤ (c + 1) * (c + 1) := Int.mul_nonneg (by omega) (by omega)
      have hcc : 99961 * (c + 1) * (c + 1) = 99961 * ((c + 1) * (c + 1)) := Int.mul_assoc _ _ _
      refine ⟨_, rfl, p, _, _, _, rfl, rfl, SqL.of hp1, rfl, _, rfl, p, _, _, _, rfl, rfl, SqL.of hp1, rfl, _, _, rfl, rfl, Or.inl (by decide), _, rfl, p, _, _, _, rfl, rfl, SqL.of hp1, rfl, _, _, rfl, rfl, Or.inr ⟨by omega, by omega⟩, _, _, rfl, rfl, _, _, rfl, rfl,
        _, _, rfl, rfl, ⟨by decide, by decide, by omega⟩, Or.inl ⟨_, rfl, _, rfl, _, _, rfl, rfl, e2, ?_⟩⟩
      have n0 := Int.emod_nonneg (((mix + 99961 * (c + 1) * (c + 1) + 47) ^ (3 : Int).toNat)) (show pr ≠ 0 by omega)
      have n1 := Int.emod_lt_of_pos (((mix + 99961 * (c + 1) * (c + 1) + 47) ^ (3 : Int).toNat)) e2
      refine ⟨_, rfl, _, rfl, Or.inl ⟨_, rfl, _, _, rfl, rfl, (by show (0 : Int) < 10009; decide), _, rfl, p, _, _, _, rfl, rfl, SqL.of hp1, rfl, _, _, rfl, rfl, Or.inl (by decide), _, _, rfl, rfl, _, _, rfl, rfl, Or.inl ⟨by omega, by omega⟩, _, _, rfl, rfl, ⟨by decide, by decide⟩,
        Or.inl ⟨_, rfl, _, rfl, _, _, rfl, rfl, u0, ?_⟩⟩⟩
      refine k _ _ (Int.emod_nonneg _ (by omega)) (Int.emod_lt_of_pos _ u0) ⟨_, _, _, hp1, o0, m0, m1, by omega, by omega⟩ fun b o eb nb => ?_
      have hb2 : (upd H p (.lst [.int own, .int mix, .int (c + 1)])) b = some o := by rw [upd_ne nb]; exact eb
      rw [upd_ne (ne_of_none hb2 hl)]
      exact hb2
end
section
variable {P : Program} {w : World} {K : PySem.W.Frag} {mg : Str → Option Value} {base : Heap} {A : Ad}
/-- _law_of(pot, some): one of a list's items -/
def spOf : Sp := fun vs H Q _ => ∃ (p l : Addr) (xs : List V) (n : Nat), vs = [.ref p, .ref l] ∧ H l = some (.lst xs) ∧ l ≠ p ∧ xs ≠ [] ∧ xs.length ≤ 1000 ∧ Pot H p n ∧ n ≤ 100000 ∧ ∀ v H', v ∈ xs → Pot H' p (n + 1) → SameBut p H H' → Q v H'
theorem ok_law_of (T : Txt K mg A) : FnOk P w K mg base CX0 2 A.f_law_of A.d_law_of ["pot", "some"] spOf := by
  refine T.F_law_of.ok sc_law_of (fun vs H Q E h => ?_) (fun cdv B outer s H vs Q E hr h => ?_)
  · obtain ⟨p, l, xs, n, rfl, _⟩ := h
    rfl
  · obtain ⟨p, l, xs, n, rfl, hl, nlp, ne, hlen, hP, hn, k⟩ := h
    refine ⟨_, pss_one (ps_ret (pe_ix ix_list (pv 1) (pe_call (ok_law_take T) hr rfl T.g_law_take T.F_law_take.kp T.b_law_take .nil pass0 (pa_cons (pv 0) (pa_cons (pe_callB call_len_seq (by rfl) T.z_len (by decide +kernel) (pa_cons (pv 1) pa_nil)) pa_nil))) (fun _ _ => rfl))), ?_⟩
    have h0 : 0 < xs.length := List.length_pos_iff.mpr ne
    refine ⟨_, rfl, _, rfl, _, rfl, l, _, rfl, Or.inl (SqL.of hl), p, _, n, rfl, (by omega), ?_, hP, hn, fun r H' r0 r1 hP' sb => ?_⟩
    · have : ((xs.length : Int)).natAbs < 2 ^ 10 := by omega
      exact up_lt this (by decide)
    · obtain ⟨v, hv, hm⟩ := at_mem r0 r1
      exact ⟨l, _, _, _, rfl, rfl, SqL.of (sb _ _ hl nlp), hv, k v H' hm hP' sb⟩
end
/-! ### the law's own fractions -/
/-- a pair of ints at r -/
structure Pr (H : Hp) (r : Addr) (t b : Int) (n : Nat) : Prop where
  at_ : H r = some (.tup [.int t, .int b])
  lt : t.natAbs < 2 ^ n
  pos : 0 < b
  lb : b.natAbs < 2 ^ n
theorem Pr.but {p r : Addr} {H H' : Hp} {t b : Int} {n : Nat} (h : Pr H r t b n) (s : SameBut p H H') (hp : ∃ xs, H p = some (.lst xs)) : Pr H' r t b n := ⟨tup_but h.at_ s hp, h.lt, h.pos, h.lb⟩
theorem Pr.same {r : Addr} {H H' : Hp} {t b : Int} {n : Nat} (h : Pr H r t b n) (s : Same H H') : Pr H' r t b n := ⟨s _ _ h.at_, h.lt, h.pos, h.lb⟩
theorem Pr.bd {r : Addr} {H : Hp} {t b : Int} {n : Nat} (h : Pr H r t b n) : Bd n (Rat.divInt t b) := Bd.mk' (Int.ne_of_gt h.pos) h.lt h.lb
def BI (n : Nat) (v : V) : Prop := ∃ t : Int, v = .int t ∧ t.natAbs < 2 ^ n
def BP (n : Nat) (v : V) : Prop := ∃ t : Int, v = .int t ∧ 0 < t ∧ t.natAbs < 2 ^ n
/-! ### one turn of the law -/
theorem same_mut {H0 H : Hp} {D : Addr} {o : HO} (s : Same H0 H) (h : H0 D = none) : Same H0 (upd H D o) := fun b u e => by
  rw [upd_ne (ne_of_none e h)]
  exact s b u e
theorem Num.upl {C D a : Addr} {H : Hp} {q : Rat} {xs : List V} {o : HO} (h : Num C H a q) (hD : H D = some (.lst xs)) : Num C (upd H D o) a q := h.but but_upd ⟨_, hD⟩
theorem memq {α : Type} {xs : List α} {i : Nat} {v : α} {R : α → Prop} (h : xs[i]? = some v) (hR : ∀ x ∈ xs, R x) : R v := hR v (List.mem_of_getElem? h)
theorem yes_of {σ : L2.St} {H : Hp} {Q : Bool → Hp → Prop} (h : Q true H) : tYes σ H Q := h
theorem get_nil {R : Prop} {j : Nat} {a : Addr} (h : ([] : List Addr)[j]? = some a) : R := by simp at h
theorem get_snoc {α : Type} {xs : List α} {y v : α} {j : Nat} (h : (xs ++ [y])[j]? = some v) : xs[j]? = some v ∨ (j = xs.length ∧ v = y) := by
  by_cases hj : j < xs.length
  · rw [List.getElem?_append_left hj] at h
    exact .inl h
  · rw [List.getElem?_append_right (by omega)] at h
    have : j - xs.length = 0 := by
      rcases Nat.eq_zero_or_pos (j - xs.length) with e | e
      · exact e
      · rw [List.getElem?_eq_none (by simpa using (show 1 ≤ j - xs.length from e))] at h
        cases h
    rw [this] at h
    exact .inr ⟨by omega, (Option.some.inj h).symm⟩
theorem get_map {xs : List Addr} {i : Nat} {v : V} (h : (xs.map V.ref)[i]? = some v) : ∃ a, xs[i]? = some a ∧ v = .ref a := by
  rw [List.getElem?_map] at h
  cases e : xs[i]? with
  | none => rw [e] at h; cases h
  | some a => rw [e] at h; exact ⟨a, rfl, (Option.some.inj h).symm⟩
theorem iteT' {c : Bool} {A B : Prop} (hc : c = true) (h : A) : if c = true then A else B := by
  rw [if_pos hc]
  exact h
theorem iteF' {c : Bool} {A B : Prop} (hc : c = false) (h : B) : if c = true then A else B := by
  rw [hc, if_neg Bool.false_ne_true]
  exact h
/-! ### k04: the law's helpers -/
section
variable {P : Program} {w : World} {K : PySem.W.Frag} {mg : Str → Option Value} {base : Heap} {A : Ad}
theorem ok_law_sum (T : Txt K mg A) : FnOk P w K mg base CX0 5 A.f_law_sum A.d_law_sum ["one", "mate"] (spNum2 A.c_Number (· + ·)) := by
  refine T.F_law_sum.ok sc_law_sum (fun vs H Q E h => ?_) (fun cdv B outer s H vs Q E hr h => ?_)
  · obtain ⟨a, b, p, q, rfl, _⟩ := h
    rfl
  · obtain ⟨a, b, p, q, rfl, ⟨dx, ha⟩, ⟨dy, hb⟩, bp, bq, k⟩ := h
    have hr4 : Room 4 _ := hr.mono (by decide)
    refine ⟨_, (pss_one (ps_ret (pe_ifExp (PW.pt (pw_and (pt_val (pe_callB call_isi (by rfl) T.z_isinstance (by decide +kernel) (pa_cons (pv 0) (pa_cons (pe_glob (v := .ref A.c_Number) (by rfl) T.g_Number rfl) pa_nil)))) (pw_and1 (pt_val (pe_callB call_isi (by rfl) T.z_isinstance (by decide +kernel) (pa_cons (pv 1) (pa_cons (pe_glob (v := .ref A.c_Number) (by rfl) T.g_Number rfl) pa_nil))))))) (pe_op (op_own2 (ok_Number_add T) T.b_Number_add T.m_Number_add.at_ T.m_Number_add.fn T.sf_Number hr4 pass0) (pv 0) (pv 1)) pe_non))), ?_⟩
    refine ⟨_, rfl, _, _, _, _, true, rfl, .own _, .base (.ins ha T.cl_Number T.ca_Number T.cn T.ct T.cm_Number), T.kit_NumNum, true, rfl, ?_⟩
    refine iteT ?_
    refine ⟨_, rfl, _, _, _, _, true, rfl, .own _, .base (.ins hb T.cl_Number T.ca_Number T.cn T.ct T.cm_Number), T.kit_NumNum, true, rfl, ?_⟩
    refine iteT ?_
    exact ⟨_, rfl, _, rfl, a, _, _, b, _, _, rfl, rfl, ha, hb, a, b, p, q, rfl, ⟨_, ha⟩, ⟨_, hb⟩, bp, bq, k⟩
theorem ok_law_less (T : Txt K mg A) : FnOk P w K mg base CX0 5 A.f_law_less A.d_law_less ["one", "mate"] (spNum2 A.c_Number (· - ·)) := by
  refine T.F_law_less.ok sc_law_less (fun vs H Q E h => ?_) (fun cdv B outer s H vs Q E hr h => ?_)
  · obtain ⟨a, b, p, q, rfl, _⟩ := h
    rfl
  · obtain ⟨a, b, p, q, rfl, ⟨dx, ha⟩, ⟨dy, hb⟩, bp, bq, k⟩ := h
    have hr4 : Room 4 _ := hr.mono (by decide)
    refine ⟨_, (pss_one (ps_ret (pe_ifExp (PW.pt (pw_and (pt_val (pe_callB call_isi (by rfl) T.z_isinstance (by decide +kernel) (pa_cons (pv 0) (pa_cons (pe_glob (v := .ref A.c_Number) (by rfl) T.g_Number rfl) pa_nil)))) (pw_and1 (pt_val (pe_callB call_isi (by rfl) T.z_isinstance (by decide +kernel) (pa_cons (pv 1) (pa_cons (pe_glob (v := .ref A.c_Number) (by rfl) T.g_Number rfl) pa_nil))))))) (pe_op (op_own2 (ok_Number_sub T) T.b_Number_sub T.m_Number_sub.at_ T.m_Number_sub.fn T.sf_Number hr4 pass0) (pv 0) (pv 1)) pe_non))), ?_⟩
    refine ⟨_, rfl, _, _, _, _, true, rfl, .own _, .base (.ins ha T.cl_Number T.ca_Number T.cn T.ct T.cm_Number), T.kit_NumNum, true, rfl, ?_⟩
    refine iteT ?_
    refine ⟨_, rfl, _, _, _, _, true, rfl, .own _, .base (.ins hb T.cl_Number T.ca_Number T.cn T.ct T.cm_Number), T.kit_NumNum, true, rfl, ?_⟩
    refine iteT ?_
    exact ⟨_, rfl, _, rfl, a, _, _, b, _, _, rfl, rfl, ha, hb, a, b, p, q, rfl, ⟨_, ha⟩, ⟨_, hb⟩, bp, bq, k⟩
theorem ok_law_times (T : Txt K mg A) : FnOk P w K mg base CX0 5 A.f_law_times A.d_law_times ["one", "mate"] (spNum2 A.c_Number (· * ·)) := by
  refine T.F_law_times.ok sc_law_times (fun vs H Q E h => ?_) (fun cdv B outer s H vs Q E hr h => ?_)
  · obtain ⟨a, b, p, q, rfl, _⟩ := h
    rfl
  · obtain ⟨a, b, p, q, rfl, ⟨dx, ha⟩, ⟨dy, hb⟩, bp, bq, k⟩ := h
    have hr4 : Room 4 _ := hr.mono (by decide)
    refine ⟨_, (pss_one (ps_ret (pe_ifExp (PW.pt (pw_and (pt_val (pe_callB call_isi (by rfl) T.z_isinstance (by decide +kernel) (pa_cons (pv 0) (pa_cons (pe_glob (v := .ref A.c_Number) (by rfl) T.g_Number rfl) pa_nil)))) (pw_and1 (pt_val (pe_callB call_isi (by rfl) T.z_isinstance (by decide +kernel) (pa_cons (pv 1) (pa_cons (pe_glob (v := .ref A.c_Number) (by rfl) T.g_Number rfl) pa_nil))))))) (pe_op (op_own2 (ok_Number_mul T) T.b_Number_mul T.m_Number_mul.at_ T.m_Number_mul.fn T.sf_Number hr4 pass0) (pv 0) (pv 1)) pe_non))), ?_⟩
    refine ⟨_, rfl, _, _, _, _, true, rfl, .own _, .base (.ins ha T.cl_Number T.ca_Number T.cn T.ct T.cm_Number), T.kit_NumNum, true, rfl, ?_⟩
    refine iteT ?_
    refine ⟨_, rfl, _, _, _, _, true, rfl, .own _, .base (.ins hb T.cl_Number T.ca_Number T.cn T.ct T.cm_Number), T.kit_NumNum, true, rfl, ?_⟩
    refine iteT ?_
    exact ⟨_, rfl, _, rfl, a, _, _, b, _, _, rfl, rfl, ha, hb, a, b, p, q, rfl, ⟨_, ha⟩, ⟨_, hb⟩, bp, bq, k⟩
theorem ok_law_turned (T : Txt K mg A) : FnOk P w K mg base CX0 5 A.f_law_turned A.d_law_turned ["one"] (spNum1 A.c_Number (- ·)) := by
  refine T.F_law_turned.ok sc_law_turned (fun vs H Q E h => ?_) (fun cdv B outer s H vs Q E hr h => ?_)
  · obtain ⟨a, p, rfl, _⟩ := h
    rfl
  · obtain ⟨a, p, rfl, ⟨dx, ha⟩, bp, k⟩ := h
    have hr4 : Room 4 _ := hr.mono (by decide)
    refine ⟨_, (pss_one (ps_ret (pe_ifExp (pt_val (pe_callB call_isi (by rfl) T.z_isinstance (by decide +kernel) (pa_cons (pv 0) (pa_cons (pe_glob (v := .ref A.c_Number) (by rfl) T.g_Number rfl) pa_nil)))) (pe_un (un_ownNeg (ok_Number_neg T) T.b_Number_neg T.m_Number_neg.at_ T.m_Number_neg.fn hr4 pass0) (pv 0)) pe_non))), ?_⟩
    refine ⟨_, rfl, _, _, _, _, true, rfl, .own _, .base (.ins ha T.cl_Number T.ca_Number T.cn T.ct T.cm_Number), T.kit_NumNum, true, rfl, ?_⟩
    refine iteT ?_
    exact ⟨_, rfl, a, _, _, rfl, ha, a, p, rfl, ⟨_, ha⟩, bp, k⟩
/-- Numbers that are all the same -/
def Row (A : Ad) (H : Hp) (l : Addr) : Prop := ∃ (xs : List Addr) (q : Rat), H l = some (.lst (xs.map V.ref)) ∧ xs ≠ [] ∧ xs.length < 64 ∧ ∀ x ∈ xs, Num A.c_Number H x q
def spSame (A : Ad) : Sp := fun vs H Q _ => ∃ (l : Addr), vs = [.ref l] ∧ Row A H l ∧ ∀ H', Same H H' → Q (.bl true) H'
theorem ok_law_are_same (T : Txt K mg A) : FnOk P w K mg base CX0 3 A.f_law_are_same A.d_law_are_same ["some"] (spSame A) := by
  refine T.F_law_are_same.ok sc_law_are_same (fun vs H Q E h => ?_) (fun cdv B outer s H vs Q E hr h => ?_)
  · obtain ⟨l, rfl, _⟩ := h
    rfl
  · obtain ⟨l, rfl, ⟨xs, q, hl, hne, hlt, hx⟩, k⟩ := h
    have hr2 : Room 2 _ := hr.mono (by decide)
    refine ⟨_, (pss_cons (ps_if (pt_not (pt_val (pe_callB (cr_all rfl) (by rfl) T.z_all (by decide +kernel) (pa_cons (pe_lc (own := [("one", 1)]) (g := gName 1) (tt := tYes) rfl sc_law_are_same.nd (pi_list (pv 0)) (blkOk_by (N := N_law_are_same) (sc := defScope s_law_are_same) (by decide +kernel)) (fun _ _ _ _ _ => (pg_name (i := 1) sc_law_are_same.nd rfl (Or.inl rfl))) (fun _ _ _ _ _ => pts_nil) (fun _ _ _ _ _ => (pe_callB (cIsi K) (by rfl) T.z_isinstance (by decide +kernel) (pa_cons (pv 1) (pa_cons (pe_glob (v := .ref A.c_Number) (by rfl) T.g_Number rfl) pa_nil))))) pa_nil)))) (pss_one (ps_ret pe_bl)) pss_nil)
      (pss_one (ps_ret (pe_cmpR op_eq (pe_callB cr_lenT (by rfl) T.z_len (by decide +kernel) (pa_cons (pe_callTy (cr_setOfT rfl hr.units) (by rfl) T.z_set (by decide +kernel) (pa_cons (pe_lc (own := [("one", 1)]) (g := gName 1) (tt := tYes) rfl sc_law_are_same.nd (pi_list (pv 0)) (blkOk_by (N := N_law_are_same) (sc := defScope s_law_are_same) (by decide +kernel)) (fun _ _ _ _ _ => (pg_name (i := 1) sc_law_are_same.nd rfl (Or.inl rfl))) (fun _ _ _ _ _ => pts_nil) (fun _ _ _ _ _ => (pe_tup (pa_cons (pe_prop (pv 1) T.cl_Number T.P_Number_top (ok_Number_top T) hr2 T.b_Number_top .nil pass0 rfl) (pa_cons (pe_prop (pv 1) T.cl_Number T.P_Number_bottom (ok_Number_bottom T) hr2 T.b_Number_bottom .nil pass0 rfl) pa_nil))))) pa_nil)) pa_nil)) pe_int (nomark _))))), ?_⟩
    refine ⟨_, rfl, l, rfl, ⟨_, SqL.of hl⟩, fun D nD => lc_list (K := K) (a := l) (xs := xs.map V.ref) (fun i Hh => Same H Hh ∧ Hh D = some (.lst ((List.replicate i true).map V.bl)))
      ⟨same_new nD, upd_same⟩ (fun i Hh _ hh => SqL.of (hh.1 _ _ hl)) ?_ ?_⟩
    · rintro i y Hh hi ⟨z, hD⟩
      obtain ⟨a, hai, rfl⟩ := get_map hi
      have hi4 : i < xs.length := (List.getElem?_eq_some_iff.mp hai).1
      obtain ⟨dx, ex⟩ := (memq (R := fun x => Num A.c_Number H x q) hai hx).mono z
      refine ⟨rfl, yes_of ?_⟩
      refine iteT ?_
      refine ⟨_, rfl, _, _, _, _, true, rfl, .own _, .base (.ins ex T.cl_Number T.ca_Number T.cn T.ct T.cm_Number), T.kit_NumNum, ?_⟩
      refine ⟨_, hD, ?_, same_mut z nD, ?_⟩
      · rw [List.length_map, List.length_replicate]
        exact Nat.lt_trans hi4 (Nat.lt_trans hlt (by decide))
      · rw [upd_same, List.replicate_succ', List.map_append]
        rfl
    rintro H1 ⟨z1, hD⟩
    refine ⟨D, List.replicate (xs.map V.ref).length true, rfl, SqL.of hD, _, rfl, ?_⟩
    refine iteF' (by simp) ?_
    refine ⟨_, rfl, l, rfl, ⟨_, SqL.of (z1 _ _ hl)⟩, fun D2 nD2 => lc_list (K := K) (a := l) (xs := xs.map V.ref) (fun i Hh => Same H1 Hh ∧ ∃ acc : List Addr, acc.length = i ∧ Hh D2 = some (.lst (acc.map V.ref)) ∧ ∀ t ∈ acc, Hh t = some (.tup [.int q.num, .int (q.den : Int)]))
      ⟨same_new nD2, [], rfl, upd_same, fun t ht => absurd ht (by simp)⟩ (fun i Hh _ hh => SqL.of (hh.1 _ _ (z1 _ _ hl))) ?_ ?_⟩
    · rintro i y Hh hi ⟨z, acc, la, hD2, ht⟩
      obtain ⟨a, hai, rfl⟩ := get_map hi
      have hi4 : i < xs.length := (List.getElem?_eq_some_iff.mp hai).1
      obtain ⟨dx, ex⟩ := (memq (R := fun x => Num A.c_Number H x q) hai hx).mono (z1.trans z)
      refine ⟨rfl, yes_of ?_⟩
      refine iteT ?_
      refine ⟨_, rfl, a, dx, _, rfl, ex, a, dx, _, _, rfl, ex, nf_top q, _, rfl, a, dx, _, rfl, ex, a, dx, _, _, rfl, ex, nf_bot q, (by show 2 ≤ sizeLine; decide), fun t nt => ?_⟩
      have hD3 := same_new (o := .tup [.int q.num, .int (q.den : Int)]) nt _ _ hD2
      refine ⟨_, hD3, ?_, same_mut (z.trans (same_new nt)) nD2, acc ++ [t], ?_, ?_, ?_⟩
      · rw [List.length_map, la]
        exact Nat.lt_trans hi4 (Nat.lt_trans hlt (by decide))
      · rw [List.length_append, la]
        rfl
      · rw [upd_same, List.map_append]
        rfl
      · intro u hu
        have hne3 : ∀ {o : HO} {v : Addr}, (upd Hh t (.tup [.int q.num, .int (q.den : Int)])) v = some (.tup [.int q.num, .int (q.den : Int)]) → (upd (upd Hh t (.tup [.int q.num, .int (q.den : Int)])) D2 o) v = some (.tup [.int q.num, .int (q.den : Int)]) := fun {o v} e => by
          rw [upd_ne (ne_of e hD3 (by intro z; cases z))]
          exact e
        rcases List.mem_append.mp hu with h | h
        · exact hne3 (same_new nt _ _ (ht u h))
        · rw [List.mem_singleton.mp h]
          exact hne3 upd_same
    rintro H2 ⟨z2, acc, la, hD2, ht⟩
    have hacc : acc.length = xs.length := by rw [la, List.length_map]
    refine ⟨D2, acc.map fun t => (t, [q.num, (q.den : Int)]), rfl, SqL.of (by rw [hD2, List.map_map]; rfl), ?_, by rw [List.length_map, hacc]; exact hlt, fun S L nS hsub hall => ?_⟩
    · intro p hp
      obtain ⟨t, hm, rfl⟩ := List.mem_map.mp hp
      exact SqT.of (ht t hm)
    have hL : ∀ p ∈ L, p.2 = [q.num, (q.den : Int)] ∧ H2 p.1 = some (.tup [.int q.num, .int (q.den : Int)]) := fun p hp => by
      obtain ⟨t, hm, e⟩ := List.mem_map.mp (hsub p hp)
      rw [← e]
      exact ⟨rfl, ht t hm⟩
    refine ⟨S, L, rfl, upd_same, fun p hp => ?_, fun hnd => ?_⟩
    · rw [(hL p hp).1]
      exact SqT.of (same_new nS _ _ (hL p hp).2)
    have hlen : L.length = 1 := by
      have hpos : 0 < acc.length := by rw [hacc]; exact List.length_pos_iff.mpr hne
      obtain ⟨t, hm⟩ := List.exists_mem_of_length_pos hpos
      have h1 := hall (t, [q.num, (q.den : Int)]) (List.mem_map.mpr ⟨t, hm, rfl⟩)
      match L, hL, hnd, h1 with
      | [], _, _, h1 => simp at h1
      | [x], _, _, _ => rfl
      | x :: y :: r, hL, hnd, _ =>
        exfalso
        have e1 := (hL x (by simp)).1
        have e2 := (hL y (by simp)).1
        simp [e1, e2] at hnd
    rw [hlen]
    refine ⟨rfl, ?_⟩
    exact k _ (z1.trans (z2.trans (same_new nS)))
def spDrawnN (A : Ad) (m n : Nat) : Sp := fun vs H Q _ => ∃ (p : Addr) (c : Nat), vs = [.ref p] ∧ Pot H p c ∧ c ≤ 90000 ∧ ∀ q x H', Num A.c_Number H' x q → Bd n q → H x = none → Pot H' p (c + m) → SameBut p H H' → Q (.ref x) H'
theorem ok_law_drawn (T : Txt K mg A) : FnOk P w K mg base CX0 4 A.f_law_drawn A.d_law_drawn ["pot"] (spDrawnN A 4 80) := by
  refine T.F_law_drawn.ok sc_law_drawn (fun vs H Q E h => ?_) (fun cdv B outer s H vs Q E hr h => ?_)
  · obtain ⟨p, n, rfl, _⟩ := h
    rfl
  · obtain ⟨p, n, rfl, hP, hn, k⟩ := h
    have hr1 : Room 1 _ := hr.mono (by decide)
    have hr2 : Room 2 _ := hr.mono (by decide)
    have hr3 : Room 3 _ := hr.mono (by decide)
    refine ⟨_, (pss_cons (ps_set (i := 1) sc_law_drawn.nd rfl (Or.inl rfl) (pe_call (ok_law_of T) hr2 rfl T.g_law_of T.F_law_of.kp T.b_law_of .nil pass0 (pa_cons (pv 0) (pa_cons (pe_lst (pa_cons pe_int (pa_cons pe_int (pa_cons (pe_un un_neg pe_int) (pa_cons pe_int (pa_cons pe_int (pa_cons (pe_un un_neg pe_int) (pa_cons pe_int (pa_cons pe_int (pa_cons (pe_op op_powW pe_int pe_int) (pa_cons (pe_op op_sub (pe_call (ok_law_take T) hr1 rfl T.g_law_take T.F_law_take.kp T.b_law_take .nil pass0 (pa_cons (pv 0) (pa_cons pe_int pa_nil))) pe_int) (pa_cons (pe_op op_sub (pe_un un_neg (pe_op op_powW pe_int pe_int)) pe_int) pa_nil)))))))))))) pa_nil))))
      (pss_one (ps_ret (pe_make T.M_Number (ok_Number_init T) hr3 rfl T.g_Number (b_Number T) .nil pass0 (pa_cons (pv 1) (pa_cons (pe_call (ok_law_of T) hr2 rfl T.g_law_of T.F_law_of.kp T.b_law_of .nil pass0 (pa_cons (pv 0) (pa_cons (pe_lst (pa_cons pe_int (pa_cons pe_int (pa_cons pe_int (pa_cons pe_int (pa_cons (pe_un un_neg pe_int) (pa_cons pe_int (pa_cons pe_int (pa_cons (pe_op op_powW pe_int pe_int) (pa_cons (pe_op op_add pe_int (pe_call (ok_law_take T) hr1 rfl T.g_law_take T.F_law_take.kp T.b_law_take .nil pass0 (pa_cons (pv 0) (pa_cons pe_int pa_nil)))) (pa_cons (pe_un un_neg pe_int) pa_nil))))))))))) pa_nil))) pa_nil)))))), ?_⟩
    refine ⟨_, rfl, _, rfl, _, rfl, _, _, rfl, rfl, ⟨by decide, by decide +kernel⟩, _, rfl, p, 200, n, rfl, (by decide), up_lt (n := 9000) (show (200 : Int).natAbs < 2 ^ 8 by decide) (by decide), hP, (by omega), fun r H1 r0 r1 hP1 s1 => ?_⟩
    refine ⟨_, _, rfl, rfl, _, _, rfl, rfl, ⟨by decide, by decide +kernel⟩, _, rfl, _, _, rfl, rfl, (by show 11 ≤ sizeLine; decide), fun l hl => ?_⟩
    obtain ⟨xs1, e1⟩ := hP1.lst
    refine ⟨p, l, _, n + 1, rfl, upd_same, (ne_of_none e1 hl).symm, by simp, by show 11 ≤ 1000; decide, hP1.same (same_new hl), (by omega), fun v H2 hv hP2 s2 => ?_⟩
    have h1 : ∀ v ∈ ([V.int 0, V.int 1, V.int (-1), V.int 2, V.int 3, V.int (-5), V.int 12, V.int 60, V.int (10 ^ (12 : Int).toNat), V.int (r - 100), V.int (-(10 ^ (20 : Int).toNat) - 7)] : List V), BI 80 v := by
      repeat (first | exact List.forall_mem_nil _ | refine List.forall_mem_cons.mpr ⟨⟨_, rfl, by first | decide | omega⟩, ?_⟩)
    obtain ⟨t, rfl, ht⟩ := h1 v hv
    refine ⟨_, rfl, _, rfl, _, rfl, _, _, rfl, rfl, ⟨by decide, by decide +kernel⟩, _, rfl, p, 40, n + 1 + 1, rfl, (by decide), up_lt (n := 9000) (show (40 : Int).natAbs < 2 ^ 8 by decide) (by decide), hP2, (by omega), fun r' H3 r0' r1' hP3 s3 => ?_⟩
    refine ⟨_, _, rfl, rfl, _, rfl, (by show 10 ≤ sizeLine; decide), fun l' hl' => ?_⟩
    obtain ⟨xs3, e3⟩ := hP3.lst
    refine ⟨p, l', _, n + 1 + 1 + 1, rfl, upd_same, (ne_of_none e3 hl').symm, by simp, by show 10 ≤ 1000; decide, hP3.same (same_new hl'), (by omega), fun v' H4 hv' hP4 s4 => ?_⟩
    have h2 : ∀ v ∈ ([V.int 1, V.int 1, V.int 2, V.int 3, V.int (-4), V.int 12, V.int 60, V.int (10 ^ (9 : Int).toNat), V.int (1 + r'), V.int (-7)] : List V), ∃ t : Int, v = .int t ∧ t ≠ 0 ∧ t.natAbs < 2 ^ 80 := by
      repeat (first | exact List.forall_mem_nil _ | refine List.forall_mem_cons.mpr ⟨⟨_, rfl, by first | decide | omega, by first | decide | omega⟩, ?_⟩)
    obtain ⟨b, rfl, hb0, hb⟩ := h2 v' hv'
    intro x dx nx ndx nex
    refine ⟨x, dx, t, b, rfl, hb0, up_lt hb (by decide), upd_same, rfl, ?_⟩
    obtain ⟨s5, hx⟩ := made_num (C := A.c_Number) (Rat.divInt t b) nx ndx
    have sb := (((s1.same (same_new hl)).trans s2).trans ((s3.same (same_new hl')).trans s4))
    exact k _ x _ hx (Bd.mk' hb0 ht hb) (sb.free hP.lst hP4.lst nx) (hP4.same s5) (sb.same s5)
end
/-! ### k04: sums and products -/
section
variable {P : Program} {w : World} {K : PySem.W.Frag} {mg : Str → Option Value} {base : Heap} {A : Ad}
theorem Row.mono {H H' : Hp} {l : Addr} (h : Row A H l) (s : Same H H') : Row A H' l := by
  obtain ⟨xs, q, e, h1, h2, h3⟩ := h
  exact ⟨xs, q, s _ _ e, h1, h2, fun x m => (h3 x m).mono s⟩
theorem row2 {H : Hp} {l x y : Addr} {u v : Rat} (nl : H l = none) (hx : Num A.c_Number H x u) (hy : Num A.c_Number H y v) (e : v = u) : Row A (upd H l (.lst [.ref x, .ref y])) l :=
  ⟨[x, y], u, upd_same, by simp, by simp, List.forall_mem_cons.mpr ⟨hx.mono (same_new nl), List.forall_mem_cons.mpr ⟨(e ▸ hy).mono (same_new nl), List.forall_mem_nil _⟩⟩⟩
/-- the list of rows at R; R itself is none of them -/
def Rows (A : Ad) (H : Hp) (R : Addr) (rs : List Addr) : Prop := H R = some (.lst (rs.map V.ref)) ∧ ∀ r ∈ rs, Row A H r ∧ r ≠ R
theorem Rows.mono {H H' : Hp} {R : Addr} {rs : List Addr} (h : Rows A H R rs) (s : Same H H') : Rows A H' R rs := ⟨s _ _ h.1, fun r m => ⟨(h.2 r m).1.mono s, (h.2 r m).2⟩⟩
theorem Row.upd {H : Hp} {l R : Addr} {xs : List V} {o : HO} (h : Row A H l) (hR : H R = some (.lst xs)) (n : l ≠ R) : Row A (upd H R o) l := by
  obtain ⟨ys, q, e, h1, h2, h3⟩ := h
  exact ⟨ys, q, by rw [upd_ne n]; exact e, h1, h2, fun x m => (h3 x m).upl hR⟩
theorem Rows.push {H : Hp} {R : Addr} {rs ls : List Addr} (h : Rows A H R rs) (hl : ∀ l ∈ ls, Row A H l ∧ l ≠ R) : Rows A (upd H R (.lst (rs.map V.ref ++ ls.map V.ref))) R (rs ++ ls) :=
  ⟨by rw [upd_same, List.map_append], fun r m => by
    rcases List.mem_append.mp m with m | m
    · exact ⟨(h.2 r m).1.upd h.1 (h.2 r m).2, (h.2 r m).2⟩
    · exact ⟨(hl r m).1.upd h.1 (hl r m).2, (hl r m).2⟩⟩
theorem rq0 (p q r : Rat) : (r + (q + p)) = ((p + q) + r) := by
  have h0 : Rat.divInt 0 1 = 0 := by decide
  have h1 : Rat.divInt 1 1 = 1 := by decide
  have h2 : Rat.divInt (-1) 1 = -1 := by decide
  first | exact rabs_neg _ | (try rw [h0]; try rw [h1]; try rw [h2]); grind
theorem rq1 (p q r : Rat) : (q + (p + r)) = ((q + r) + p) := by
  have h0 : Rat.divInt 0 1 = 0 := by decide
  have h1 : Rat.divInt 1 1 = 1 := by decide
  have h2 : Rat.divInt (-1) 1 = -1 := by decide
  first | exact rabs_neg _ | (try rw [h0]; try rw [h1]; try rw [h2]); grind
theorem rq2 (p q r : Rat) : (r * (q * p)) = ((p * q) * r) := by
  have h0 : Rat.divInt 0 1 = 0 := by decide
  have h1 : Rat.divInt 1 1 = 1 := by decide
  have h2 : Rat.divInt (-1) 1 = -1 := by decide
  first | exact rabs_neg _ | (try rw [h0]; try rw [h1]; try rw [h2]); grind
theorem rq3 (p q r : Rat) : ((p * q) + (p * r)) = (p * (q + r)) := by
  have h0 : Rat.divInt 0 1 = 0 := by decide
  have h1 : Rat.divInt 1 1 = 1 := by decide
  have h2 : Rat.divInt (-1) 1 = -1 := by decide
  first | exact rabs_neg _ | (try rw [h0]; try rw [h1]; try rw [h2]); grind
theorem rq4 (p q r : Rat) : p = ((p + q) - q) := by
  have h0 : Rat.divInt 0 1 = 0 := by decide
  have h1 : Rat.divInt 1 1 = 1 := by decide
  have h2 : Rat.divInt (-1) 1 = -1 := by decide
  first | exact rabs_neg _ | (try rw [h0]; try rw [h1]; try rw [h2]); grind
theorem rq5 (p q r : Rat) : (-(q - p)) = (p - q) := by
  have h0 : Rat.divInt 0 1 = 0 := by decide
  have h1 : Rat.divInt 1 1 = 1 := by decide
  have h2 : Rat.divInt (-1) 1 = -1 := by decide
  first | exact rabs_neg _ | (try rw [h0]; try rw [h1]; try rw [h2]); grind
theorem rq6 (p q r : Rat) : (Rat.divInt 0 1) = (p - p) := by
  have h0 : Rat.divInt 0 1 = 0 := by decide
  have h1 : Rat.divInt 1 1 = 1 := by decide
  have h2 : Rat.divInt (-1) 1 = -1 := by decide
  first | exact rabs_neg _ | (try rw [h0]; try rw [h1]; try rw [h2]); grind
theorem rq7 (p q r : Rat) : p = (p * (Rat.divInt 1 1)) := by
  have h0 : Rat.divInt 0 1 = 0 := by decide
  have h1 : Rat.divInt 1 1 = 1 := by decide
  have h2 : Rat.divInt (-1) 1 = -1 := by decide
  first | exact rabs_neg _ | (try rw [h0]; try rw [h1]; try rw [h2]); grind
theorem rq8 (p q r : Rat) : p = (p + (Rat.divInt 0 1)) := by
  have h0 : Rat.divInt 0 1 = 0 := by decide
  have h1 : Rat.divInt 1 1 = 1 := by decide
  have h2 : Rat.divInt (-1) 1 = -1 := by decide
  first | exact rabs_neg _ | (try rw [h0]; try rw [h1]; try rw [h2]); grind
theorem rq9 (p q r : Rat) : (Rat.divInt 0 1) = (p * (Rat.divInt 0 1)) := by
  have h0 : Rat.divInt 0 1 = 0 := by decide
  have h1 : Rat.divInt 1 1 = 1 := by decide
  have h2 : Rat.divInt (-1) 1 = -1 := by decide
  first | exact rabs_neg _ | (try rw [h0]; try rw [h1]; try rw [h2]); grind
theorem rq10 (p q r : Rat) : ((Rat.divInt (-1) 1) * p) = (-p) := by
  have h0 : Rat.divInt 0 1 = 0 := by decide
  have h1 : Rat.divInt 1 1 = 1 := by decide
  have h2 : Rat.divInt (-1) 1 = -1 := by decide
  first | exact rabs_neg _ | (try rw [h0]; try rw [h1]; try rw [h2]); grind
theorem rq11 (p q r : Rat) : (rabs (-p)) = (rabs p) := by
  have h0 : Rat.divInt 0 1 = 0 := by decide
  have h1 : Rat.divInt 1 1 = 1 := by decide
  have h2 : Rat.divInt (-1) 1 = -1 := by decide
  first | exact rabs_neg _ | (try rw [h0]; try rw [h1]; try rw [h2]); grind
theorem rq12 (p q r : Rat) : p = (-(-p)) := by
  have h0 : Rat.divInt 0 1 = 0 := by decide
  have h1 : Rat.divInt 1 1 = 1 := by decide
  have h2 : Rat.divInt (-1) 1 = -1 := by decide
  first | exact rabs_neg _ | (try rw [h0]; try rw [h1]; try rw [h2]); grind
def spSums (A : Ad) : Sp := fun vs H Q _ => ∃ (a b c : Addr) (p q r : Rat), vs = [.ref a, .ref b, .ref c] ∧ Num A.c_Number H a p ∧ Num A.c_Number H b q ∧ Num A.c_Number H c r ∧ Bd 80 p ∧ Bd 80 q ∧ Bd 80 r ∧ ∀ H', Same H H' → Q (.bl true) H'
theorem ok_law_sums_right (T : Txt K mg A) : FnOk P w K mg base CX0 6 A.f_law_sums_right A.d_law_sums_right ["a", "b", "c"] (spSums A) := by
  refine T.F_law_sums_right.ok sc_law_sums_right (fun vs H Q E h => ?_) (fun cdv B outer s H vs Q E hr h => ?_)
  · obtain ⟨a, b, c, p, q, r, rfl, _⟩ := h
    rfl
  · obtain ⟨a, b, c, p, q, r, rfl, ha, hb, hc, ba, bb, bc, k⟩ := h
    have hr3 : Room 3 _ := hr.mono (by decide)
    have hr4 : Room 4 _ := hr.mono (by decide)
    have hr5 : Room 5 _ := hr.mono (by decide)
    obtain ⟨_, r1Number, b1Number⟩ := b1_Number T
    refine ⟨_, (pss_cons (ps_par3 (i := 3) (j := 4) (l := 5) rfl sc_law_sums_right.nd rfl rfl rfl (by decide) (by decide) (by decide) rfl rfl rfl (pa_cons (pe_make T.M_Number (ok_Number_init T) hr3 rfl T.g_Number b1Number r1Number pass0 (pa_cons pe_int pa_nil)) (pa_cons (pe_make T.M_Number (ok_Number_init T) hr3 rfl T.g_Number b1Number r1Number pass0 (pa_cons pe_int pa_nil)) (pa_cons (pe_call (ok_law_sum T) hr5 rfl T.g_law_sum T.F_law_sum.kp T.b_law_sum .nil pass0 (pa_cons (pv 1) (pa_cons (pv 2) pa_nil))) pa_nil))) (by rfl))
      (pss_cons (ps_set (i := 6) sc_law_sums_right.nd rfl (Or.inl rfl) (pe_lst (pa_cons (pe_lst (pa_cons (pe_call (ok_law_sum T) hr5 rfl T.g_law_sum T.F_law_sum.kp T.b_law_sum .nil pass0 (pa_cons (pe_call (ok_law_sum T) hr5 rfl T.g_law_sum T.F_law_sum.kp T.b_law_sum .nil pass0 (pa_cons (pv 0) (pa_cons (pv 1) pa_nil))) (pa_cons (pv 2) pa_nil))) (pa_cons (pe_call (ok_law_sum T) hr5 rfl T.g_law_sum T.F_law_sum.kp T.b_law_sum .nil pass0 (pa_cons (pv 2) (pa_cons (pe_call (ok_law_sum T) hr5 rfl T.g_law_sum T.F_law_sum.kp T.b_law_sum .nil pass0 (pa_cons (pv 1) (pa_cons (pv 0) pa_nil))) pa_nil))) pa_nil))) pa_nil)))
      (pss_cons (ps_expr (pe_bm PySem.F.plainAttrs_list PySem.F.slot_list_append PySem.F.type_list_append mt_append (pv 6) (pa_cons (pe_lst (pa_cons (pe_call (ok_law_sum T) hr5 rfl T.g_law_sum T.F_law_sum.kp T.b_law_sum .nil pass0 (pa_cons (pv 5) (pa_cons (pv 0) pa_nil))) (pa_cons (pe_call (ok_law_sum T) hr5 rfl T.g_law_sum T.F_law_sum.kp T.b_law_sum .nil pass0 (pa_cons (pv 1) (pa_cons (pe_call (ok_law_sum T) hr5 rfl T.g_law_sum T.F_law_sum.kp T.b_law_sum .nil pass0 (pa_cons (pv 0) (pa_cons (pv 2) pa_nil))) pa_nil))) pa_nil))) pa_nil)))
      (pss_cons (ps_expr (pe_bm PySem.F.plainAttrs_list PySem.F.slot_list_append PySem.F.type_list_append mt_append (pv 6) (pa_cons (pe_lst (pa_cons (pe_call (ok_law_times T) hr5 rfl T.g_law_times T.F_law_times.kp T.b_law_times .nil pass0 (pa_cons (pe_call (ok_law_times T) hr5 rfl T.g_law_times T.F_law_times.kp T.b_law_times .nil pass0 (pa_cons (pv 0) (pa_cons (pv 1) pa_nil))) (pa_cons (pv 2) pa_nil))) (pa_cons (pe_call (ok_law_times T) hr5 rfl T.g_law_times T.F_law_times.kp T.b_law_times .nil pass0 (pa_cons (pv 2) (pa_cons (pe_call (ok_law_times T) hr5 rfl T.g_law_times T.F_law_times.kp T.b_law_times .nil pass0 (pa_cons (pv 1) (pa_cons (pv 0) pa_nil))) pa_nil))) pa_nil))) pa_nil)))
      (pss_cons (ps_expr (pe_bm PySem.F.plainAttrs_list PySem.F.slot_list_append PySem.F.type_list_append mt_append (pv 6) (pa_cons (pe_lst (pa_cons (pe_call (ok_law_times T) hr5 rfl T.g_law_times T.F_law_times.kp T.b_law_times .nil pass0 (pa_cons (pv 0) (pa_cons (pv 5) pa_nil))) (pa_cons (pe_call (ok_law_sum T) hr5 rfl T.g_law_sum T.F_law_sum.kp T.b_law_sum .nil pass0 (pa_cons (pe_call (ok_law_times T) hr5 rfl T.g_law_times T.F_law_times.kp T.b_law_times .nil pass0 (pa_cons (pv 0) (pa_cons (pv 1) pa_nil))) (pa_cons (pe_call (ok_law_times T) hr5 rfl T.g_law_times T.F_law_times.kp T.b_law_times .nil pass0 (pa_cons (pv 0) (pa_cons (pv 2) pa_nil))) pa_nil))) pa_nil))) pa_nil)))
      (pss_cons (ps_expr (pe_bm PySem.F.plainAttrs_list PySem.F.slot_list_append PySem.F.type_list_append mt_append (pv 6) (pa_cons (pe_lst (pa_cons (pe_call (ok_law_less T) hr5 rfl T.g_law_less T.F_law_less.kp T.b_law_less .nil pass0 (pa_cons (pe_call (ok_law_sum T) hr5 rfl T.g_law_sum T.F_law_sum.kp T.b_law_sum .nil pass0 (pa_cons (pv 0) (pa_cons (pv 1) pa_nil))) (pa_cons (pv 1) pa_nil))) (pa_cons (pv 0) pa_nil))) pa_nil)))
      (pss_cons (ps_expr (pe_bm PySem.F.plainAttrs_list PySem.F.slot_list_append PySem.F.type_list_append mt_append (pv 6) (pa_cons (pe_lst (pa_cons (pe_call (ok_law_less T) hr5 rfl T.g_law_less T.F_law_less.kp T.b_law_less .nil pass0 (pa_cons (pv 0) (pa_cons (pv 1) pa_nil))) (pa_cons (pe_call (ok_law_turned T) hr5 rfl T.g_law_turned T.F_law_turned.kp T.b_law_turned .nil pass0 (pa_cons (pe_call (ok_law_less T) hr5 rfl T.g_law_less T.F_law_less.kp T.b_law_less .nil pass0 (pa_cons (pv 1) (pa_cons (pv 0) pa_nil))) pa_nil)) pa_nil))) pa_nil)))
      (pss_cons (ps_expr (pe_bm PySem.F.plainAttrs_list PySem.F.slot_list_extend PySem.F.type_list_extend mt_extend (pv 6) (pa_cons (pe_lst (pa_cons (pe_lst (pa_cons (pe_call (ok_law_less T) hr5 rfl T.g_law_less T.F_law_less.kp T.b_law_less .nil pass0 (pa_cons (pv 0) (pa_cons (pv 0) pa_nil))) (pa_cons (pv 3) pa_nil))) (pa_cons (pe_lst (pa_cons (pe_call (ok_law_times T) hr5 rfl T.g_law_times T.F_law_times.kp T.b_law_times .nil pass0 (pa_cons (pv 0) (pa_cons (pv 4) pa_nil))) (pa_cons (pv 0) pa_nil))) pa_nil))) pa_nil)))
      (pss_cons (ps_expr (pe_bm PySem.F.plainAttrs_list PySem.F.slot_list_extend PySem.F.type_list_extend mt_extend (pv 6) (pa_cons (pe_lst (pa_cons (pe_lst (pa_cons (pe_call (ok_law_sum T) hr5 rfl T.g_law_sum T.F_law_sum.kp T.b_law_sum .nil pass0 (pa_cons (pv 0) (pa_cons (pv 3) pa_nil))) (pa_cons (pv 0) pa_nil))) (pa_cons (pe_lst (pa_cons (pe_call (ok_law_times T) hr5 rfl T.g_law_times T.F_law_times.kp T.b_law_times .nil pass0 (pa_cons (pv 0) (pa_cons (pv 3) pa_nil))) (pa_cons (pv 3) pa_nil))) pa_nil))) pa_nil)))
      (pss_cons (ps_expr (pe_bm PySem.F.plainAttrs_list PySem.F.slot_list_append PySem.F.type_list_append mt_append (pv 6) (pa_cons (pe_lst (pa_cons (pe_call (ok_law_turned T) hr5 rfl T.g_law_turned T.F_law_turned.kp T.b_law_turned .nil pass0 (pa_cons (pv 0) pa_nil)) (pa_cons (pe_call (ok_law_times T) hr5 rfl T.g_law_times T.F_law_times.kp T.b_law_times .nil pass0 (pa_cons (pe_make T.M_Number (ok_Number_init T) hr3 rfl T.g_Number b1Number r1Number pass0 (pa_cons (pe_un un_neg pe_int) pa_nil)) (pa_cons (pv 0) pa_nil))) pa_nil))) pa_nil)))
      (pss_cons (ps_expr (pe_bm PySem.F.plainAttrs_list PySem.F.slot_list_extend PySem.F.type_list_extend mt_extend (pv 6) (pa_cons (pe_lst (pa_cons (pe_lst (pa_cons (pe_callB (call_ownAbs (ok_Number_abs T) T.b_Number_abs T.m_Number_abs.at_ T.m_Number_abs.fn hr5 pass0) (by rfl) T.z_abs (by decide +kernel) (pa_cons (pv 0) pa_nil)) (pa_cons (pe_callB (call_ownAbs (ok_Number_abs T) T.b_Number_abs T.m_Number_abs.at_ T.m_Number_abs.fn hr5 pass0) (by rfl) T.z_abs (by decide +kernel) (pa_cons (pe_un (un_ownNeg (ok_Number_neg T) T.b_Number_neg T.m_Number_neg.at_ T.m_Number_neg.fn hr4 pass0) (pv 0)) pa_nil)) pa_nil))) (pa_cons (pe_lst (pa_cons (pe_call (ok_law_turned T) hr5 rfl T.g_law_turned T.F_law_turned.kp T.b_law_turned .nil pass0 (pa_cons (pe_call (ok_law_turned T) hr5 rfl T.g_law_turned T.F_law_turned.kp T.b_law_turned .nil pass0 (pa_cons (pv 0) pa_nil)) pa_nil)) (pa_cons (pv 0) pa_nil))) pa_nil))) pa_nil)))
      (pss_one (ps_ret (pe_callB (cr_all rfl) (by rfl) T.z_all (by decide +kernel) (pa_cons (pe_lc (own := [("row", 7)]) (g := gName 7) (tt := tYes) rfl sc_law_sums_right.nd (pi_list (pv 6)) (blkOk_by (N := N_law_sums_right) (sc := defScope s_law_sums_right) (by decide +kernel)) (fun _ _ _ _ _ => (pg_name (i := 7) sc_law_sums_right.nd rfl (Or.inl rfl))) (fun _ _ _ _ _ => pts_nil) (fun _ _ _ _ _ => (pe_call (ok_law_are_same T) hr3 rfl T.g_law_are_same T.F_law_are_same.kp T.b_law_are_same .nil pass0 (pa_cons (pv 7) pa_nil)))) pa_nil))))))))))))))), ?_⟩
    intro x1 dx2 n3 nd4 ne5
    refine ⟨x1, dx2, 0, 1, rfl, by decide, up_lt (n := 9000) (show (1 : Int).natAbs < 2 ^ 1 by decide) (by decide), upd_same, rfl, ?_⟩
    obtain ⟨s6, h7⟩ := made_num (C := A.c_Number) (Rat.divInt 0 1) n3 nd4
    generalize upd (upd (upd H dx2 (.own x1)) x1 (.ins A.c_Number dx2 [])) x1 (.ins A.c_Number dx2 (nf (Rat.divInt 0 1))) = H8 at *
    have f9 := ha.mono s6
    have f10 := hb.mono s6
    have f11 := hc.mono s6
    have g12 := (Same.refl H).trans s6
    have bd13 : Bd 1 (Rat.divInt 0 1) := ⟨by decide, by decide⟩
    intro x14 dx15 n16 nd17 ne18
    refine ⟨x14, dx15, 1, 1, rfl, by decide, up_lt (n := 9000) (show (1 : Int).natAbs < 2 ^ 1 by decide) (by decide), upd_same, rfl, ?_⟩
    obtain ⟨s19, h20⟩ := made_num (C := A.c_Number) (Rat.divInt 1 1) n16 nd17
    generalize upd (upd (upd H8 dx15 (.own x14)) x14 (.ins A.c_Number dx15 [])) x14 (.ins A.c_Number dx15 (nf (Rat.divInt 1 1))) = H21 at *
    have f22 := f9.mono s19
    have f23 := f10.mono s19
    have f24 := f11.mono s19
    have f25 := h7.mono s19
    have g26 := g12.trans s19
    clear f9 f10 f11 h7 g12
    have bd27 : Bd 1 (Rat.divInt 1 1) := ⟨by decide, by decide⟩
    refine ⟨_, rfl, _, rfl, b, c, _, _, rfl, f23, f24, (bb.mono (by decide)), (bc.mono (by decide)), fun x28 H29 s30 n31 h32 => ?_⟩
    have f33 := f22.mono s30
    have f34 := f23.mono s30
    have f35 := f24.mono s30
    have f36 := f25.mono s30
    have f37 := h20.mono s30
    have g38 := g26.trans s30
    clear f22 f23 f24 f25 h20 g26
    refine ⟨_, _, _, rfl, ?_⟩
    refine ⟨_, rfl, _, rfl, a, b, _, _, rfl, f33, f34, (ba.mono (by decide)), (bb.mono (by decide)), fun x39 H40 s41 n42 h43 => ?_⟩
    have f44 := f33.mono s41
    have f45 := f34.mono s41
    have f46 := f35.mono s41
    have f47 := f36.mono s41
    have f48 := f37.mono s41
    have f49 := h32.mono s41
    have g50 := g38.trans s41
    clear f33 f34 f35 f36 f37 h32 g38
    refine ⟨_, rfl, x39, c, _, _, rfl, h43, f46, ((ba.add bb).mono (by decide)), (bc.mono (by decide)), fun x51 H52 s53 n54 h55 => ?_⟩
    have f56 := f44.mono s53
    have f57 := f45.mono s53
    have f58 := f46.mono s53
    have f59 := f47.mono s53
    have f60 := f48.mono s53
    have f61 := f49.mono s53
    have f62 := h43.mono s53
    have g63 := g50.trans s53
    clear f44 f45 f46 f47 f48 f49 h43 g50
    refine ⟨_, rfl, _, rfl, _, rfl, b, a, _, _, rfl, f57, f56, (bb.mono (by decide)), (ba.mono (by decide)), fun x64 H65 s66 n67 h68 => ?_⟩
    have f69 := f56.mono s66
    have f70 := f57.mono s66
    have f71 := f58.mono s66
    have f72 := f59.mono s66
    have f73 := f60.mono s66
    have f74 := f61.mono s66
    have f75 := f62.mono s66
    have f76 := h55.mono s66
    have g77 := g63.trans s66
    clear f56 f57 f58 f59 f60 f61 f62 h55 g63
    refine ⟨c, x64, _, _, rfl, f71, h68, (bc.mono (by decide)), ((bb.add ba).mono (by decide)), fun x78 H79 s80 n81 h82 => ?_⟩
    have f83 := f69.mono s80
    have f84 := f70.mono s80
    have f85 := f71.mono s80
    have f86 := f72.mono s80
    have f87 := f73.mono s80
    have f88 := f74.mono s80
    have f89 := f75.mono s80
    have f90 := f76.mono s80
    have f91 := h68.mono s80
    have g92 := g77.trans s80
    clear f69 f70 f71 f72 f73 f74 f75 f76 h68 g77
    refine ⟨(by show 2 ≤ sizeLine; decide), fun l93 nl94 => ?_⟩
    have rw95 := row2 (A := A) nl94 f90 h82 (rq0 p q r)
    have s97 := same_new (o := .lst [.ref x51, .ref x78]) nl94
    generalize upd H79 l93 (.lst [.ref x51, .ref x78]) = H96 at *
    have f98 := f83.mono s97
    have f99 := f84.mono s97
    have f100 := f85.mono s97
    have f101 := f86.mono s97
    have f102 := f87.mono s97
    have f103 := f88.mono s97
    have f104 := f89.mono s97
    have f105 := f90.mono s97
    have f106 := f91.mono s97
    have f107 := h82.mono s97
    have g108 := g92.trans s97
    clear f83 f84 f85 f86 f87 f88 f89 f90 f91 h82 g92
    clear f104
    clear f105
    clear f106
    clear f107
    refine ⟨(by show 1 ≤ sizeLine; decide), fun R nR => ?_⟩
    have hR : Rows A (upd H96 R (.lst [.ref l93])) R [l93] := ⟨upd_same, List.forall_mem_cons.mpr ⟨⟨rw95.mono (same_new nR), ne_of_none rw95.choose_spec.choose_spec.1 nR⟩, List.forall_mem_nil _⟩⟩
    have nR0 : H R = none := (g108).free nR
    have s110 := same_new (o := .lst [.ref l93]) nR
    generalize upd H96 R (.lst [.ref l93]) = H109 at *
    have f111 := f98.mono s110
    have f112 := f99.mono s110
    have f113 := f100.mono s110
    have f114 := f101.mono s110
    have f115 := f102.mono s110
    have f116 := f103.mono s110
    have g117 := g108.trans s110
    clear f98 f99 f100 f101 f102 f103 g108
    refine ⟨_, rfl, .inl ⟨rfl, _, SqL.of hR.1⟩, _, rfl, _, rfl, x28, a, _, _, rfl, f116, f111, ((bb.add bc).mono (by decide)), (ba.mono (by decide)), fun x118 H119 s120 n121 h122 => ?_⟩
    have f123 := f111.mono s120
    have f124 := f112.mono s120
    have f125 := f113.mono s120
    have f126 := f114.mono s120
    have f127 := f115.mono s120
    have f128 := f116.mono s120
    have g129 := g117.trans s120
    have g130 := hR.mono s120
    clear f111 f112 f113 f114 f115 f116 g117
    refine ⟨_, rfl, _, rfl, _, rfl, a, c, _, _, rfl, f123, f125, (ba.mono (by decide)), (bc.mono (by decide)), fun x131 H132 s133 n134 h135 => ?_⟩
    have f136 := f123.mono s133
    have f137 := f124.mono s133
    have f138 := f125.mono s133
    have f139 := f126.mono s133
    have f140 := f127.mono s133
    have f141 := f128.mono s133
    have f142 := h122.mono s133
    have g143 := g129.trans s133
    have g144 := g130.mono s133
    clear f123 f124 f125 f126 f127 f128 h122 g129 g130
    refine ⟨b, x131, _, _, rfl, f137, h135, (bb.mono (by decide)), ((ba.add bc).mono (by decide)), fun x145 H146 s147 n148 h149 => ?_⟩
    have f150 := f136.mono s147
    have f151 := f137.mono s147
    have f152 := f138.mono s147
    have f153 := f139.mono s147
    have f154 := f140.mono s147
    have f155 := f141.mono s147
    have f156 := f142.mono s147
    have f157 := h135.mono s147
    have g158 := g143.trans s147
    have g159 := g144.mono s147
    clear f136 f137 f138 f139 f140 f141 f142 h135 g143 g144
    refine ⟨(by show 2 ≤ sizeLine; decide), fun l160 nl161 => ?_⟩
    have rw162 := row2 (A := A) nl161 f156 h149 (rq1 p q r)
    have s164 := same_new (o := .lst [.ref x118, .ref x145]) nl161
    have ne165 := ne_of_none g159.1 nl161
    generalize upd H146 l160 (.lst [.ref x118, .ref x145]) = H163 at *
    have f166 := f150.mono s164
    have f167 := f151.mono s164
    have f168 := f152.mono s164
    have f169 := f153.mono s164
    have f170 := f154.mono s164
    have f171 := f155.mono s164
    have f172 := f156.mono s164
    have f173 := f157.mono s164
    have f174 := h149.mono s164
    have g175 := g158.trans s164
    have g176 := g159.mono s164
    clear f150 f151 f152 f153 f154 f155 f156 f157 h149 g158 g159
    clear f172
    clear f173
    clear f174
    refine ⟨R, [.ref l93], .ref l160, rfl, rfl, g176.1, (by show 1 < sizeLine; decide), ?_⟩
    have hR178 : Rows A (upd H163 R (.lst ([.ref l93] ++ [.ref l160]))) R [l93, l160] := g176.push (ls := [l160]) (List.forall_mem_cons.mpr ⟨⟨rw162, ne165.symm⟩, List.forall_mem_nil _⟩)
    have f180 := f166.upl (o := .lst ([.ref l93] ++ [.ref l160])) g176.1
    have f181 := f167.upl (o := .lst ([.ref l93] ++ [.ref l160])) g176.1
    have f182 := f168.upl (o := .lst ([.ref l93] ++ [.ref l160])) g176.1
    have f183 := f169.upl (o := .lst ([.ref l93] ++ [.ref l160])) g176.1
    have f184 := f170.upl (o := .lst ([.ref l93] ++ [.ref l160])) g176.1
    have f185 := f171.upl (o := .lst ([.ref l93] ++ [.ref l160])) g176.1
    have z179 : Same H (upd H163 R (.lst ([.ref l93] ++ [.ref l160]))) := same_mut g175 nR0
    generalize upd H163 R (.lst ([.ref l93] ++ [.ref l160])) = H177 at *
    refine ⟨_, rfl, .inl ⟨rfl, _, SqL.of hR178.1⟩, _, rfl, _, rfl, a, b, _, _, rfl, f180, f181, (ba.mono (by decide)), (bb.mono (by decide)), fun x186 H187 s188 n189 h190 => ?_⟩
    have f191 := f180.mono s188
    have f192 := f181.mono s188
    have f193 := f182.mono s188
    have f194 := f183.mono s188
    have f195 := f184.mono s188
    have f196 := f185.mono s188
    have g197 := z179.trans s188
    have g198 := hR178.mono s188
    clear f180 f181 f182 f183 f184 f185 z179 hR178
    refine ⟨_, rfl, x186, c, _, _, rfl, h190, f193, ((ba.mul bb).mono (by decide)), (bc.mono (by decide)), fun x199 H200 s201 n202 h203 => ?_⟩
    have f204 := f191.mono s201
    have f205 := f192.mono s201
    have f206 := f193.mono s201
    have f207 := f194.mono s201
    have f208 := f195.mono s201
    have f209 := f196.mono s201
    have f210 := h190.mono s201
    have g211 := g197.trans s201
    have g212 := g198.mono s201
    clear f191 f192 f193 f194 f195 f196 h190 g197 g198
    refine ⟨_, rfl, _, rfl, _, rfl, b, a, _, _, rfl, f205, f204, (bb.mono (by decide)), (ba.mono (by decide)), fun x213 H214 s215 n216 h217 => ?_⟩
    have f218 := f204.mono s215
    have f219 := f205.mono s215
    have f220 := f206.mono s215
    have f221 := f207.mono s215
    have f222 := f208.mono s215
    have f223 := f209.mono s215
    have f224 := f210.mono s215
    have f225 := h203.mono s215
    have g226 := g211.trans s215
    have g227 := g212.mono s215
    clear f204 f205 f206 f207 f208 f209 f210 h203 g211 g212
    refine ⟨c, x213, _, _, rfl, f220, h217, (bc.mono (by decide)), ((bb.mul ba).mono (by decide)), fun x228 H229 s230 n231 h232 => ?_⟩
    have f233 := f218.mono s230
    have f234 := f219.mono s230
    have f235 := f220.mono s230
    have f236 := f221.mono s230
    have f237 := f222.mono s230
    have f238 := f223.mono s230
    have f239 := f224.mono s230
    have f240 := f225.mono s230
    have f241 := h217.mono s230
    have g242 := g226.trans s230
    have g243 := g227.mono s230
    clear f218 f219 f220 f221 f222 f223 f224 f225 h217 g226 g227
    refine ⟨(by show 2 ≤ sizeLine; decide), fun l244 nl245 => ?_⟩
    have rw246 := row2 (A := A) nl245 f240 h232 (rq2 p q r)
    have s248 := same_new (o := .lst [.ref x199, .ref x228]) nl245
    have ne249 := ne_of_none g243.1 nl245
    generalize upd H229 l244 (.lst [.ref x199, .ref x228]) = H247 at *
    have f250 := f233.mono s248
    have f251 := f234.mono s248
    have f252 := f235.mono s248
    have f253 := f236.mono s248
    have f254 := f237.mono s248
    have f255 := f238.mono s248
    have f256 := f239.mono s248
    have f257 := f240.mono s248
    have f258 := f241.mono s248
    have f259 := h232.mono s248
    have g260 := g242.trans s248
    have g261 := g243.mono s248
    clear f233 f234 f235 f236 f237 f238 f239 f240 f241 h232 g242 g243
    clear f256
    clear f257
    clear f258
    clear f259
    refine ⟨R, [.ref l93, .ref l160], .ref l244, rfl, rfl, g261.1, (by show 2 < sizeLine; decide), ?_⟩
    have hR263 : Rows A (upd H247 R (.lst ([.ref l93, .ref l160] ++ [.ref l244]))) R [l93, l160, l244] := g261.push (ls := [l244]) (List.forall_mem_cons.mpr ⟨⟨rw246, ne249.symm⟩, List.forall_mem_nil _⟩)
    have f265 := f250.upl (o := .lst ([.ref l93, .ref l160] ++ [.ref l244])) g261.1
    have f266 := f251.upl (o := .lst ([.ref l93, .ref l160] ++ [.ref l244])) g261.1
    have f267 := f252.upl (o := .lst ([.ref l93, .ref l160] ++ [.ref l244])) g261.1
    have f268 := f253.upl (o := .lst ([.ref l93, .ref l160] ++ [.ref l244])) g261.1
    have f269 := f254.upl (o := .lst ([.ref l93, .ref l160] ++ [.ref l244])) g261.1
    have f270 := f255.upl (o := .lst ([.ref l93, .ref l160] ++ [.ref l244])) g261.1
    have z264 : Same H (upd H247 R (.lst ([.ref l93, .ref l160] ++ [.ref l244]))) := same_mut g260 nR0
    generalize upd H247 R (.lst ([.ref l93, .ref l160] ++ [.ref l244])) = H262 at *
    refine ⟨_, rfl, .inl ⟨rfl, _, SqL.of hR263.1⟩, _, rfl, _, rfl, a, x28, _, _, rfl, f265, f270, (ba.mono (by decide)), ((bb.add bc).mono (by decide)), fun x271 H272 s273 n274 h275 => ?_⟩
    have f276 := f265.mono s273
    have f277 := f266.mono s273
    have f278 := f267.mono s273
    have f279 := f268.mono s273
    have f280 := f269.mono s273
    have f281 := f270.mono s273
    have g282 := z264.trans s273
    have g283 := hR263.mono s273
    clear f265 f266 f267 f268 f269 f270 z264 hR263
    refine ⟨_, rfl, _, rfl, a, b, _, _, rfl, f276, f277, (ba.mono (by decide)), (bb.mono (by decide)), fun x284 H285 s286 n287 h288 => ?_⟩
    have f289 := f276.mono s286
    have f290 := f277.mono s286
    have f291 := f278.mono s286
    have f292 := f279.mono s286
    have f293 := f280.mono s286
    have f294 := f281.mono s286
    have f295 := h275.mono s286
    have g296 := g282.trans s286
    have g297 := g283.mono s286
    clear f276 f277 f278 f279 f280 f281 h275 g282 g283
    refine ⟨_, rfl, _, rfl, a, c, _, _, rfl, f289, f291, (ba.mono (by decide)), (bc.mono (by decide)), fun x298 H299 s300 n301 h302 => ?_⟩
    have f303 := f289.mono s300
    have f304 := f290.mono s300
    have f305 := f291.mono s300
    have f306 := f292.mono s300
    have f307 := f293.mono s300
    have f308 := f294.mono s300
    have f309 := f295.mono s300
    have f310 := h288.mono s300
    have g311 := g296.trans s300
    have g312 := g297.mono s300
    clear f289 f290 f291 f292 f293 f294 f295 h288 g296 g297
    refine ⟨x284, x298, _, _, rfl, f310, h302, ((ba.mul bb).mono (by decide)), ((ba.mul bc).mono (by decide)), fun x313 H314 s315 n316 h317 => ?_⟩
    have f318 := f303.mono s315
    have f319 := f304.mono s315
    have f320 := f305.mono s315
    have f321 := f306.mono s315
    have f322 := f307.mono s315
    have f323 := f308.mono s315
    have f324 := f309.mono s315
    have f325 := f310.mono s315
    have f326 := h302.mono s315
    have g327 := g311.trans s315
    have g328 := g312.mono s315
    clear f303 f304 f305 f306 f307 f308 f309 f310 h302 g311 g312
    refine ⟨(by show 2 ≤ sizeLine; decide), fun l329 nl330 => ?_⟩
    have rw331 := row2 (A := A) nl330 f324 h317 (rq3 p q r)
    have s333 := same_new (o := .lst [.ref x271, .ref x313]) nl330
    have ne334 := ne_of_none g328.1 nl330
    generalize upd H314 l329 (.lst [.ref x271, .ref x313]) = H332 at *
    have f335 := f318.mono s333
    have f336 := f319.mono s333
    have f337 := f320.mono s333
    have f338 := f321.mono s333
    have f339 := f322.mono s333
    have f340 := f323.mono s333
    have f341 := f324.mono s333
    have f342 := f325.mono s333
    have f343 := f326.mono s333
    have f344 := h317.mono s333
    have g345 := g327.trans s333
    have g346 := g328.mono s333
    clear f318 f319 f320 f321 f322 f323 f324 f325 f326 h317 g327 g328
    clear f341
    clear f342
    clear f343
    clear f344
    refine ⟨R, [.ref l93, .ref l160, .ref l244], .ref l329, rfl, rfl, g346.1, (by show 3 < sizeLine; decide), ?_⟩
    have hR348 : Rows A (upd H332 R (.lst ([.ref l93, .ref l160, .ref l244] ++ [.ref l329]))) R [l93, l160, l244, l329] := g346.push (ls := [l329]) (List.forall_mem_cons.mpr ⟨⟨rw331, ne334.symm⟩, List.forall_mem_nil _⟩)
    have f350 := f335.upl (o := .lst ([.ref l93, .ref l160, .ref l244] ++ [.ref l329])) g346.1
    have f351 := f336.upl (o := .lst ([.ref l93, .ref l160, .ref l244] ++ [.ref l329])) g346.1
    have f352 := f337.upl (o := .lst ([.ref l93, .ref l160, .ref l244] ++ [.ref l329])) g346.1
    have f353 := f338.upl (o := .lst ([.ref l93, .ref l160, .ref l244] ++ [.ref l329])) g346.1
    have f354 := f339.upl (o := .lst ([.ref l93, .ref l160, .ref l244] ++ [.ref l329])) g346.1
    have f355 := f340.upl (o := .lst ([.ref l93, .ref l160, .ref l244] ++ [.ref l329])) g346.1
    have z349 : Same H (upd H332 R (.lst ([.ref l93, .ref l160, .ref l244] ++ [.ref l329]))) := same_mut g345 nR0
    generalize upd H332 R (.lst ([.ref l93, .ref l160, .ref l244] ++ [.ref l329])) = H347 at *
    refine ⟨_, rfl, .inl ⟨rfl, _, SqL.of hR348.1⟩, _, rfl, _, rfl, a, b, _, _, rfl, f350, f351, (ba.mono (by decide)), (bb.mono (by decide)), fun x356 H357 s358 n359 h360 => ?_⟩
    have f361 := f350.mono s358
    have f362 := f351.mono s358
    have f363 := f352.mono s358
    have f364 := f353.mono s358
    have f365 := f354.mono s358
    have f366 := f355.mono s358
    have g367 := z349.trans s358
    have g368 := hR348.mono s358
    clear f350 f351 f352 f353 f354 f355 z349 hR348
    refine ⟨_, rfl, x356, b, _, _, rfl, h360, f362, ((ba.add bb).mono (by decide)), (bb.mono (by decide)), fun x369 H370 s371 n372 h373 => ?_⟩
    have f374 := f361.mono s371
    have f375 := f362.mono s371
    have f376 := f363.mono s371
    have f377 := f364.mono s371
    have f378 := f365.mono s371
    have f379 := f366.mono s371
    have f380 := h360.mono s371
    have g381 := g367.trans s371
    have g382 := g368.mono s371
    clear f361 f362 f363 f364 f365 f366 h360 g367 g368
    refine ⟨_, rfl, (by show 2 ≤ sizeLine; decide), fun l383 nl384 => ?_⟩
    have rw385 := row2 (A := A) nl384 h373 f374 (rq4 p q r)
    have s387 := same_new (o := .lst [.ref x369, .ref a]) nl384
    have ne388 := ne_of_none g382.1 nl384
    generalize upd H370 l383 (.lst [.ref x369, .ref a]) = H386 at *
    have f389 := f374.mono s387
    have f390 := f375.mono s387
    have f391 := f376.mono s387
    have f392 := f377.mono s387
    have f393 := f378.mono s387
    have f394 := f379.mono s387
    have f395 := f380.mono s387
    have f396 := h373.mono s387
    have g397 := g381.trans s387
    have g398 := g382.mono s387
    clear f374 f375 f376 f377 f378 f379 f380 h373 g381 g382
    clear f395
    clear f396
    refine ⟨R, [.ref l93, .ref l160, .ref l244, .ref l329], .ref l383, rfl, rfl, g398.1, (by show 4 < sizeLine; decide), ?_⟩
    have hR400 : Rows A (upd H386 R (.lst ([.ref l93, .ref l160, .ref l244, .ref l329] ++ [.ref l383]))) R [l93, l160, l244, l329, l383] := g398.push (ls := [l383]) (List.forall_mem_cons.mpr ⟨⟨rw385, ne388.symm⟩, List.forall_mem_nil _⟩)
    have f402 := f389.upl (o := .lst ([.ref l93, .ref l160, .ref l244, .ref l329] ++ [.ref l383])) g398.1
    have f403 := f390.upl (o := .lst ([.ref l93, .ref l160, .ref l244, .ref l329] ++ [.ref l383])) g398.1
    have f404 := f391.upl (o := .lst ([.ref l93, .ref l160, .ref l244, .ref l329] ++ [.ref l383])) g398.1
    have f405 := f392.upl (o := .lst ([.ref l93, .ref l160, .ref l244, .ref l329] ++ [.ref l383])) g398.1
    have f406 := f393.upl (o := .lst ([.ref l93, .ref l160, .ref l244, .ref l329] ++ [.ref l383])) g398.1
    have f407 := f394.upl (o := .lst ([.ref l93, .ref l160, .ref l244, .ref l329] ++ [.ref l383])) g398.1
    have z401 : Same H (upd H386 R (.lst ([.ref l93, .ref l160, .ref l244, .ref l329] ++ [.ref l383]))) := same_mut g397 nR0
    generalize upd H386 R (.lst ([.ref l93, .ref l160, .ref l244, .ref l329] ++ [.ref l383])) = H399 at *
    refine ⟨_, rfl, .inl ⟨rfl, _, SqL.of hR400.1⟩, _, rfl, _, rfl, a, b, _, _, rfl, f402, f403, (ba.mono (by decide)), (bb.mono (by decide)), fun x408 H409 s410 n411 h412 => ?_⟩
    have f413 := f402.mono s410
    have f414 := f403.mono s410
    have f415 := f404.mono s410
    have f416 := f405.mono s410
    have f417 := f406.mono s410
    have f418 := f407.mono s410
    have g419 := z401.trans s410
    have g420 := hR400.mono s410
    clear f402 f403 f404 f405 f406 f407 z401 hR400
    refine ⟨_, rfl, _, rfl, b, a, _, _, rfl, f414, f413, (bb.mono (by decide)), (ba.mono (by decide)), fun x421 H422 s423 n424 h425 => ?_⟩
    have f426 := f413.mono s423
    have f427 := f414.mono s423
    have f428 := f415.mono s423
    have f429 := f416.mono s423
    have f430 := f417.mono s423
    have f431 := f418.mono s423
    have f432 := h412.mono s423
    have g433 := g419.trans s423
    have g434 := g420.mono s423
    clear f413 f414 f415 f416 f417 f418 h412 g419 g420
    refine ⟨x421, _, rfl, h425, ((bb.sub ba).mono (by decide)), fun x435 H436 s437 n438 h439 => ?_⟩
    have f440 := f426.mono s437
    have f441 := f427.mono s437
    have f442 := f428.mono s437
    have f443 := f429.mono s437
    have f444 := f430.mono s437
    have f445 := f431.mono s437
    have f446 := f432.mono s437
    have f447 := h425.mono s437
    have g448 := g433.trans s437
    have g449 := g434.mono s437
    clear f426 f427 f428 f429 f430 f431 f432 h425 g433 g434
    refine ⟨(by show 2 ≤ sizeLine; decide), fun l450 nl451 => ?_⟩
    have rw452 := row2 (A := A) nl451 f446 h439 (rq5 p q r)
    have s454 := same_new (o := .lst [.ref x408, .ref x435]) nl451
    have ne455 := ne_of_none g449.1 nl451
    generalize upd H436 l450 (.lst [.ref x408, .ref x435]) = H453 at *
    have f456 := f440.mono s454
    have f457 := f441.mono s454
    have f458 := f442.mono s454
    have f459 := f443.mono s454
    have f460 := f444.mono s454
    have f461 := f445.mono s454
    have f462 := f446.mono s454
    have f463 := f447.mono s454
    have f464 := h439.mono s454
    have g465 := g448.trans s454
    have g466 := g449.mono s454
    clear f440 f441 f442 f443 f444 f445 f446 f447 h439 g448 g449
    clear f462
    clear f463
    clear f464
    refine ⟨R, [.ref l93, .ref l160, .ref l244, .ref l329, .ref l383], .ref l450, rfl, rfl, g466.1, (by show 5 < sizeLine; decide), ?_⟩
    have hR468 : Rows A (upd H453 R (.lst ([.ref l93, .ref l160, .ref l244, .ref l329, .ref l383] ++ [.ref l450]))) R [l93, l160, l244, l329, l383, l450] := g466.push (ls := [l450]) (List.forall_mem_cons.mpr ⟨⟨rw452, ne455.symm⟩, List.forall_mem_nil _⟩)
    have f470 := f456.upl (o := .lst ([.ref l93, .ref l160, .ref l244, .ref l329, .ref l383] ++ [.ref l450])) g466.1
    have f471 := f457.upl (o := .lst ([.ref l93, .ref l160, .ref l244, .ref l329, .ref l383] ++ [.ref l450])) g466.1
    have f472 := f458.upl (o := .lst ([.ref l93, .ref l160, .ref l244, .ref l329, .ref l383] ++ [.ref l450])) g466.1
    have f473 := f459.upl (o := .lst ([.ref l93, .ref l160, .ref l244, .ref l329, .ref l383] ++ [.ref l450])) g466.1
    have f474 := f460.upl (o := .lst ([.ref l93, .ref l160, .ref l244, .ref l329, .ref l383] ++ [.ref l450])) g466.1
    have f475 := f461.upl (o := .lst ([.ref l93, .ref l160, .ref l244, .ref l329, .ref l383] ++ [.ref l450])) g466.1
    have z469 : Same H (upd H453 R (.lst ([.ref l93, .ref l160, .ref l244, .ref l329, .ref l383] ++ [.ref l450]))) := same_mut g465 nR0
    generalize upd H453 R (.lst ([.ref l93, .ref l160, .ref l244, .ref l329, .ref l383] ++ [.ref l450])) = H467 at *
    refine ⟨_, rfl, .inl ⟨rfl, _, SqL.of hR468.1⟩, _, rfl, _, rfl, a, a, _, _, rfl, f470, f470, (ba.mono (by decide)), (ba.mono (by decide)), fun x476 H477 s478 n479 h480 => ?_⟩
    have f481 := f470.mono s478
    have f482 := f471.mono s478
    have f483 := f472.mono s478
    have f484 := f473.mono s478
    have f485 := f474.mono s478
    have f486 := f475.mono s478
    have g487 := z469.trans s478
    have g488 := hR468.mono s478
    clear f470 f471 f472 f473 f474 f475 z469 hR468
    refine ⟨_, rfl, (by show 2 ≤ sizeLine; decide), fun l489 nl490 => ?_⟩
    have rw491 := row2 (A := A) nl490 h480 f484 (rq6 p q r)
    have s493 := same_new (o := .lst [.ref x476, .ref x1]) nl490
    have ne494 := ne_of_none g488.1 nl490
    generalize upd H477 l489 (.lst [.ref x476, .ref x1]) = H492 at *
    have f495 := f481.mono s493
    have f496 := f482.mono s493
    have f497 := f483.mono s493
    have f498 := f484.mono s493
    have f499 := f485.mono s493
    have f500 := f486.mono s493
    have f501 := h480.mono s493
    have g502 := g487.trans s493
    have g503 := g488.mono s493
    clear f481 f482 f483 f484 f485 f486 h480 g487 g488
    clear f501
    refine ⟨_, rfl, _, rfl, a, x14, _, _, rfl, f495, f499, (ba.mono (by decide)), (bd27.mono (by decide)), fun x504 H505 s506 n507 h508 => ?_⟩
    have f509 := f495.mono s506
    have f510 := f496.mono s506
    have f511 := f497.mono s506
    have f512 := f498.mono s506
    have f513 := f499.mono s506
    have f514 := f500.mono s506
    have g515 := g502.trans s506
    have g516 := g503.mono s506
    have g517 := rw491.mono s506
    clear f495 f496 f497 f498 f499 f500 g502 g503 rw491
    refine ⟨_, rfl, (by show 2 ≤ sizeLine; decide), fun l518 nl519 => ?_⟩
    have rw520 := row2 (A := A) nl519 h508 f509 (rq7 p q r)
    have s522 := same_new (o := .lst [.ref x504, .ref a]) nl519
    have ne523 := ne_of_none g516.1 nl519
    generalize upd H505 l518 (.lst [.ref x504, .ref a]) = H521 at *
    have f524 := f509.mono s522
    have f525 := f510.mono s522
    have f526 := f511.mono s522
    have f527 := f512.mono s522
    have f528 := f513.mono s522
    have f529 := f514.mono s522
    have f530 := h508.mono s522
    have g531 := g515.trans s522
    have g532 := g516.mono s522
    have g533 := g517.mono s522
    clear f509 f510 f511 f512 f513 f514 h508 g515 g516 g517
    clear f530
    refine ⟨(by show 2 ≤ sizeLine; decide), fun m534 nm535 => ?_⟩
    have hm538 : (upd H521 m534 (.lst [.ref l489, .ref l518])) m534 = some (.lst [.ref l489, .ref l518]) := upd_same
    have s536 := same_new (o := .lst [.ref l489, .ref l518]) nm535
    generalize upd H521 m534 (.lst [.ref l489, .ref l518]) = H537 at *
    have f539 := f524.mono s536
    have f540 := f525.mono s536
    have f541 := f526.mono s536
    have f542 := f527.mono s536
    have f543 := f528.mono s536
    have f544 := f529.mono s536
    have g545 := g531.trans s536
    have g546 := g532.mono s536
    have g547 := g533.mono s536
    have g548 := rw520.mono s536
    clear f524 f525 f526 f527 f528 f529 g531 g532 g533 rw520
    refine ⟨R, m534, [.ref l93, .ref l160, .ref l244, .ref l329, .ref l383, .ref l450], [.ref l489, .ref l518], rfl, rfl, g546.1, hm538, (by show 8 ≤ sizeLine; decide), ?_⟩
    have hR550 : Rows A (upd H537 R (.lst ([.ref l93, .ref l160, .ref l244, .ref l329, .ref l383, .ref l450] ++ [.ref l489, .ref l518]))) R [l93, l160, l244, l329, l383, l450, l489, l518] := g546.push (ls := [l489, l518]) (List.forall_mem_cons.mpr ⟨⟨g547, ne494.symm⟩, List.forall_mem_cons.mpr ⟨⟨g548, ne523.symm⟩, List.forall_mem_nil _⟩⟩)
    have f552 := f539.upl (o := .lst ([.ref l93, .ref l160, .ref l244, .ref l329, .ref l383, .ref l450] ++ [.ref l489, .ref l518])) g546.1
    have f553 := f540.upl (o := .lst ([.ref l93, .ref l160, .ref l244, .ref l329, .ref l383, .ref l450] ++ [.ref l489, .ref l518])) g546.1
    have f554 := f541.upl (o := .lst ([.ref l93, .ref l160, .ref l244, .ref l329, .ref l383, .ref l450] ++ [.ref l489, .ref l518])) g546.1
    have f555 := f542.upl (o := .lst ([.ref l93, .ref l160, .ref l244, .ref l329, .ref l383, .ref l450] ++ [.ref l489, .ref l518])) g546.1
    have f556 := f543.upl (o := .lst ([.ref l93, .ref l160, .ref l244, .ref l329, .ref l383, .ref l450] ++ [.ref l489, .ref l518])) g546.1
    have f557 := f544.upl (o := .lst ([.ref l93, .ref l160, .ref l244, .ref l329, .ref l383, .ref l450] ++ [.ref l489, .ref l518])) g546.1
    have z551 : Same H (upd H537 R (.lst ([.ref l93, .ref l160, .ref l244, .ref l329, .ref l383, .ref l450] ++ [.ref l489, .ref l518]))) := same_mut g545 nR0
    generalize upd H537 R (.lst ([.ref l93, .ref l160, .ref l244, .ref l329, .ref l383, .ref l450] ++ [.ref l489, .ref l518])) = H549 at *
    refine ⟨_, rfl, .inl ⟨rfl, _, SqL.of hR550.1⟩, _, rfl, _, rfl, a, x1, _, _, rfl, f552, f555, (ba.mono (by decide)), (bd13.mono (by decide)), fun x558 H559 s560 n561 h562 => ?_⟩
    have f563 := f552.mono s560
    have f564 := f553.mono s560
    have f565 := f554.mono s560
    have f566 := f555.mono s560
    have f567 := f556.mono s560
    have f568 := f557.mono s560
    have g569 := z551.trans s560
    have g570 := hR550.mono s560
    clear f552 f553 f554 f555 f556 f557 z551 hR550
    refine ⟨_, rfl, (by show 2 ≤ sizeLine; decide), fun l571 nl572 => ?_⟩
    have rw573 := row2 (A := A) nl572 h562 f563 (rq8 p q r)
    have s575 := same_new (o := .lst [.ref x558, .ref a]) nl572
    have ne576 := ne_of_none g570.1 nl572
    generalize upd H559 l571 (.lst [.ref x558, .ref a]) = H574 at *
    have f577 := f563.mono s575
    have f578 := f564.mono s575
    have f579 := f565.mono s575
    have f580 := f566.mono s575
    have f581 := f567.mono s575
    have f582 := f568.mono s575
    have f583 := h562.mono s575
    have g584 := g569.trans s575
    have g585 := g570.mono s575
    clear f563 f564 f565 f566 f567 f568 h562 g569 g570
    clear f583
    refine ⟨_, rfl, _, rfl, a, x1, _, _, rfl, f577, f580, (ba.mono (by decide)), (bd13.mono (by decide)), fun x586 H587 s588 n589 h590 => ?_⟩
    have f591 := f577.mono s588
    have f592 := f578.mono s588
    have f593 := f579.mono s588
    have f594 := f580.mono s588
    have f595 := f581.mono s588
    have f596 := f582.mono s588
    have g597 := g584.trans s588
    have g598 := g585.mono s588
    have g599 := rw573.mono s588
    clear f577 f578 f579 f580 f581 f582 g584 g585 rw573
    refine ⟨_, rfl, (by show 2 ≤ sizeLine; decide), fun l600 nl601 => ?_⟩
    have rw602 := row2 (A := A) nl601 h590 f594 (rq9 p q r)
    have s604 := same_new (o := .lst [.ref x586, .ref x1]) nl601
    have ne605 := ne_of_none g598.1 nl601
    generalize upd H587 l600 (.lst [.ref x586, .ref x1]) = H603 at *
    have f606 := f591.mono s604
    have f607 := f592.mono s604
    have f608 := f593.mono s604
    have f609 := f594.mono s604
    have f610 := f595.mono s604
    have f611 := f596.mono s604
    have f612 := h590.mono s604
    have g613 := g597.trans s604
    have g614 := g598.mono s604
    have g615 := g599.mono s604
    clear f591 f592 f593 f594 f595 f596 h590 g597 g598 g599
    clear f612
    refine ⟨(by show 2 ≤ sizeLine; decide), fun m616 nm617 => ?_⟩
    have hm620 : (upd H603 m616 (.lst [.ref l571, .ref l600])) m616 = some (.lst [.ref l571, .ref l600]) := upd_same
    have s618 := same_new (o := .lst [.ref l571, .ref l600]) nm617
    generalize upd H603 m616 (.lst [.ref l571, .ref l600]) = H619 at *
    have f621 := f606.mono s618
    have f622 := f607.mono s618
    have f623 := f608.mono s618
    have f624 := f609.mono s618
    have f625 := f610.mono s618
    have f626 := f611.mono s618
    have g627 := g613.trans s618
    have g628 := g614.mono s618
    have g629 := g615.mono s618
    have g630 := rw602.mono s618
    clear f606 f607 f608 f609 f610 f611 g613 g614 g615 rw602
    refine ⟨R, m616, [.ref l93, .ref l160, .ref l244, .ref l329, .ref l383, .ref l450, .ref l489, .ref l518], [.ref l571, .ref l600], rfl, rfl, g628.1, hm620, (by show 10 ≤ sizeLine; decide), ?_⟩
    have hR632 : Rows A (upd H619 R (.lst ([.ref l93, .ref l160, .ref l244, .ref l329, .ref l383, .ref l450, .ref l489, .ref l518] ++ [.ref l571, .ref l600]))) R [l93, l160, l244, l329, l383, l450, l489, l518, l571, l600] := g628.push (ls := [l571, l600]) (List.forall_mem_cons.mpr ⟨⟨g629, ne576.symm⟩, List.forall_mem_cons.mpr ⟨⟨g630, ne605.symm⟩, List.forall_mem_nil _⟩⟩)
    have f634 := f621.upl (o := .lst ([.ref l93, .ref l160, .ref l244, .ref l329, .ref l383, .ref l450, .ref l489, .ref l518] ++ [.ref l571, .ref l600])) g628.1
    have f635 := f622.upl (o := .lst ([.ref l93, .ref l160, .ref l244, .ref l329, .ref l383, .ref l450, .ref l489, .ref l518] ++ [.ref l571, .ref l600])) g628.1
    have f636 := f623.upl (o := .lst ([.ref l93, .ref l160, .ref l244, .ref l329, .ref l383, .ref l450, .ref l489, .ref l518] ++ [.ref l571, .ref l600])) g628.1
    have f637 := f624.upl (o := .lst ([.ref l93, .ref l160, .ref l244, .ref l329, .ref l383, .ref l450, .ref l489, .ref l518] ++ [.ref l571, .ref l600])) g628.1
    have f638 := f625.upl (o := .lst ([.ref l93, .ref l160, .ref l244, .ref l329, .ref l383, .ref l450, .ref l489, .ref l518] ++ [.ref l571, .ref l600])) g628.1
    have f639 := f626.upl (o := .lst ([.ref l93, .ref l160, .ref l244, .ref l329, .ref l383, .ref l450, .ref l489, .ref l518] ++ [.ref l571, .ref l600])) g628.1
    have z633 : Same H (upd H619 R (.lst ([.ref l93, .ref l160, .ref l244, .ref l329, .ref l383, .ref l450, .ref l489, .ref l518] ++ [.ref l571, .ref l600]))) := same_mut g627 nR0
    generalize upd H619 R (.lst ([.ref l93, .ref l160, .ref l244, .ref l329, .ref l383, .ref l450, .ref l489, .ref l518] ++ [.ref l571, .ref l600])) = H631 at *
    refine ⟨_, rfl, .inl ⟨rfl, _, SqL.of hR632.1⟩, _, rfl, a, _, rfl, f634, (ba.mono (by decide)), fun x640 H641 s642 n643 h644 => ?_⟩
    have f645 := f634.mono s642
    have f646 := f635.mono s642
    have f647 := f636.mono s642
    have f648 := f637.mono s642
    have f649 := f638.mono s642
    have f650 := f639.mono s642
    have g651 := z633.trans s642
    have g652 := hR632.mono s642
    clear f634 f635 f636 f637 f638 f639 z633 hR632
    refine ⟨_, rfl, ?_⟩
    intro x653 dx654 n655 nd656 ne657
    refine ⟨x653, dx654, (-1), 1, rfl, by decide, up_lt (n := 9000) (show (1 : Int).natAbs < 2 ^ 1 by decide) (by decide), upd_same, rfl, ?_⟩
    obtain ⟨s658, h659⟩ := made_num (C := A.c_Number) (Rat.divInt (-1) 1) n655 nd656
    generalize upd (upd (upd H641 dx654 (.own x653)) x653 (.ins A.c_Number dx654 [])) x653 (.ins A.c_Number dx654 (nf (Rat.divInt (-1) 1))) = H660 at *
    have f661 := f645.mono s658
    have f662 := f646.mono s658
    have f663 := f647.mono s658
    have f664 := f648.mono s658
    have f665 := f649.mono s658
    have f666 := f650.mono s658
    have f667 := h644.mono s658
    have g668 := g651.trans s658
    have g669 := g652.mono s658
    clear f645 f646 f647 f648 f649 f650 h644 g651 g652
    have bd670 : Bd 1 (Rat.divInt (-1) 1) := ⟨by decide, by decide⟩
    refine ⟨_, rfl, x653, a, _, _, rfl, h659, f661, (bd670.mono (by decide)), (ba.mono (by decide)), fun x671 H672 s673 n674 h675 => ?_⟩
    have f676 := f661.mono s673
    have f677 := f662.mono s673
    have f678 := f663.mono s673
    have f679 := f664.mono s673
    have f680 := f665.mono s673
    have f681 := f666.mono s673
    have f682 := f667.mono s673
    have f683 := h659.mono s673
    have g684 := g668.trans s673
    have g685 := g669.mono s673
    clear f661 f662 f663 f664 f665 f666 f667 h659 g668 g669
    refine ⟨(by show 2 ≤ sizeLine; decide), fun l686 nl687 => ?_⟩
    have rw688 := row2 (A := A) nl687 f682 h675 (rq10 p q r)
    have s690 := same_new (o := .lst [.ref x640, .ref x671]) nl687
    have ne691 := ne_of_none g685.1 nl687
    generalize upd H672 l686 (.lst [.ref x640, .ref x671]) = H689 at *
    have f692 := f676.mono s690
    have f693 := f677.mono s690
    have f694 := f678.mono s690
    have f695 := f679.mono s690
    have f696 := f680.mono s690
    have f697 := f681.mono s690
    have f698 := f682.mono s690
    have f699 := f683.mono s690
    have f700 := h675.mono s690
    have g701 := g684.trans s690
    have g702 := g685.mono s690
    clear f676 f677 f678 f679 f680 f681 f682 f683 h675 g684 g685
    clear f698
    clear f699
    clear f700
    refine ⟨R, [.ref l93, .ref l160, .ref l244, .ref l329, .ref l383, .ref l450, .ref l489, .ref l518, .ref l571, .ref l600], .ref l686, rfl, rfl, g702.1, (by show 10 < sizeLine; decide), ?_⟩
    have hR704 : Rows A (upd H689 R (.lst ([.ref l93, .ref l160, .ref l244, .ref l329, .ref l383, .ref l450, .ref l489, .ref l518, .ref l571, .ref l600] ++ [.ref l686]))) R [l93, l160, l244, l329, l383, l450, l489, l518, l571, l600, l686] := g702.push (ls := [l686]) (List.forall_mem_cons.mpr ⟨⟨rw688, ne691.symm⟩, List.forall_mem_nil _⟩)
    have f706 := f692.upl (o := .lst ([.ref l93, .ref l160, .ref l244, .ref l329, .ref l383, .ref l450, .ref l489, .ref l518, .ref l571, .ref l600] ++ [.ref l686])) g702.1
    have f707 := f693.upl (o := .lst ([.ref l93, .ref l160, .ref l244, .ref l329, .ref l383, .ref l450, .ref l489, .ref l518, .ref l571, .ref l600] ++ [.ref l686])) g702.1
    have f708 := f694.upl (o := .lst ([.ref l93, .ref l160, .ref l244, .ref l329, .ref l383, .ref l450, .ref l489, .ref l518, .ref l571, .ref l600] ++ [.ref l686])) g702.1
    have f709 := f695.upl (o := .lst ([.ref l93, .ref l160, .ref l244, .ref l329, .ref l383, .ref l450, .ref l489, .ref l518, .ref l571, .ref l600] ++ [.ref l686])) g702.1
    have f710 := f696.upl (o := .lst ([.ref l93, .ref l160, .ref l244, .ref l329, .ref l383, .ref l450, .ref l489, .ref l518, .ref l571, .ref l600] ++ [.ref l686])) g702.1
    have f711 := f697.upl (o := .lst ([.ref l93, .ref l160, .ref l244, .ref l329, .ref l383, .ref l450, .ref l489, .ref l518, .ref l571, .ref l600] ++ [.ref l686])) g702.1
    have z705 : Same H (upd H689 R (.lst ([.ref l93, .ref l160, .ref l244, .ref l329, .ref l383, .ref l450, .ref l489, .ref l518, .ref l571, .ref l600] ++ [.ref l686]))) := same_mut g701 nR0
    generalize upd H689 R (.lst ([.ref l93, .ref l160, .ref l244, .ref l329, .ref l383, .ref l450, .ref l489, .ref l518, .ref l571, .ref l600] ++ [.ref l686])) = H703 at *
    refine ⟨_, rfl, .inl ⟨rfl, _, SqL.of hR704.1⟩, _, rfl, a, _, _, rfl, f706.choose_spec, a, _, rfl, f706, (ba.mono (by decide)), fun x712 H713 s714 n715 h716 => ?_⟩
    have f717 := f706.mono s714
    have f718 := f707.mono s714
    have f719 := f708.mono s714
    have f720 := f709.mono s714
    have f721 := f710.mono s714
    have f722 := f711.mono s714
    have g723 := z705.trans s714
    have g724 := hR704.mono s714
    clear f706 f707 f708 f709 f710 f711 z705 hR704
    refine ⟨_, rfl, a, _, _, rfl, f717.choose_spec, a, _, rfl, f717, (ba.mono (by decide)), fun x725 H726 s727 n728 h729 => ?_⟩
    have f730 := f717.mono s727
    have f731 := f718.mono s727
    have f732 := f719.mono s727
    have f733 := f720.mono s727
    have f734 := f721.mono s727
    have f735 := f722.mono s727
    have f736 := h716.mono s727
    have g737 := g723.trans s727
    have g738 := g724.mono s727
    clear f717 f718 f719 f720 f721 f722 h716 g723 g724
    refine ⟨x725, _, _, rfl, h729.choose_spec, x725, _, rfl, h729, (ba.neg.mono (by decide)), fun x739 H740 s741 n742 h743 => ?_⟩
    have f744 := f730.mono s741
    have f745 := f731.mono s741
    have f746 := f732.mono s741
    have f747 := f733.mono s741
    have f748 := f734.mono s741
    have f749 := f735.mono s741
    have f750 := f736.mono s741
    have f751 := h729.mono s741
    have g752 := g737.trans s741
    have g753 := g738.mono s741
    clear f730 f731 f732 f733 f734 f735 f736 h729 g737 g738
    refine ⟨(by show 2 ≤ sizeLine; decide), fun l754 nl755 => ?_⟩
    have rw756 := row2 (A := A) nl755 f750 h743 (rq11 p q r)
    have s758 := same_new (o := .lst [.ref x712, .ref x739]) nl755
    have ne759 := ne_of_none g753.1 nl755
    generalize upd H740 l754 (.lst [.ref x712, .ref x739]) = H757 at *
    have f760 := f744.mono s758
    have f761 := f745.mono s758
    have f762 := f746.mono s758
    have f763 := f747.mono s758
    have f764 := f748.mono s758
    have f765 := f749.mono s758
    have f766 := f750.mono s758
    have f767 := f751.mono s758
    have f768 := h743.mono s758
    have g769 := g752.trans s758
    have g770 := g753.mono s758
    clear f744 f745 f746 f747 f748 f749 f750 f751 h743 g752 g753
    clear f766
    clear f767
    clear f768
    refine ⟨_, rfl, a, _, rfl, f760, (ba.mono (by decide)), fun x771 H772 s773 n774 h775 => ?_⟩
    have f776 := f760.mono s773
    have f777 := f761.mono s773
    have f778 := f762.mono s773
    have f779 := f763.mono s773
    have f780 := f764.mono s773
    have f781 := f765.mono s773
    have g782 := g769.trans s773
    have g783 := g770.mono s773
    have g784 := rw756.mono s773
    clear f760 f761 f762 f763 f764 f765 g769 g770 rw756
    refine ⟨x771, _, rfl, h775, (ba.neg.mono (by decide)), fun x785 H786 s787 n788 h789 => ?_⟩
    have f790 := f776.mono s787
    have f791 := f777.mono s787
    have f792 := f778.mono s787
    have f793 := f779.mono s787
    have f794 := f780.mono s787
    have f795 := f781.mono s787
    have f796 := h775.mono s787
    have g797 := g782.trans s787
    have g798 := g783.mono s787
    have g799 := g784.mono s787
    clear f776 f777 f778 f779 f780 f781 h775 g782 g783 g784
    refine ⟨_, rfl, (by show 2 ≤ sizeLine; decide), fun l800 nl801 => ?_⟩
    have rw802 := row2 (A := A) nl801 h789 f790 (rq12 p q r)
    have s804 := same_new (o := .lst [.ref x785, .ref a]) nl801
    have ne805 := ne_of_none g798.1 nl801
    generalize upd H786 l800 (.lst [.ref x785, .ref a]) = H803 at *
    have f806 := f790.mono s804
    have f807 := f791.mono s804
    have f808 := f792.mono s804
    have f809 := f793.mono s804
    have f810 := f794.mono s804
    have f811 := f795.mono s804
    have f812 := f796.mono s804
    have f813 := h789.mono s804
    have g814 := g797.trans s804
    have g815 := g798.mono s804
    have g816 := g799.mono s804
    clear f790 f791 f792 f793 f794 f795 f796 h789 g797 g798 g799
    clear f812
    clear f813
    refine ⟨(by show 2 ≤ sizeLine; decide), fun m817 nm818 => ?_⟩
    have hm821 : (upd H803 m817 (.lst [.ref l754, .ref l800])) m817 = some (.lst [.ref l754, .ref l800]) := upd_same
    have s819 := same_new (o := .lst [.ref l754, .ref l800]) nm818
    generalize upd H803 m817 (.lst [.ref l754, .ref l800]) = H820 at *
    have f822 := f806.mono s819
    have f823 := f807.mono s819
    have f824 := f808.mono s819
    have f825 := f809.mono s819
    have f826 := f810.mono s819
    have f827 := f811.mono s819
    have g828 := g814.trans s819
    have g829 := g815.mono s819
    have g830 := g816.mono s819
    have g831 := rw802.mono s819
    clear f806 f807 f808 f809 f810 f811 g814 g815 g816 rw802
    refine ⟨R, m817, [.ref l93, .ref l160, .ref l244, .ref l329, .ref l383, .ref l450, .ref l489, .ref l518, .ref l571, .ref l600, .ref l686], [.ref l754, .ref l800], rfl, rfl, g829.1, hm821, (by show 13 ≤ sizeLine; decide), ?_⟩
    have hR833 : Rows A (upd H820 R (.lst ([.ref l93, .ref l160, .ref l244, .ref l329, .ref l383, .ref l450, .ref l489, .ref l518, .ref l571, .ref l600, .ref l686] ++ [.ref l754, .ref l800]))) R [l93, l160, l244, l329, l383, l450, l489, l518, l571, l600, l686, l754, l800] := g829.push (ls := [l754, l800]) (List.forall_mem_cons.mpr ⟨⟨g830, ne759.symm⟩, List.forall_mem_cons.mpr ⟨⟨g831, ne805.symm⟩, List.forall_mem_nil _⟩⟩)
    have f835 := f822.upl (o := .lst ([.ref l93, .ref l160, .ref l244, .ref l329, .ref l383, .ref l450, .ref l489, .ref l518, .ref l571, .ref l600, .ref l686] ++ [.ref l754, .ref l800])) g829.1
    have f836 := f823.upl (o := .lst ([.ref l93, .ref l160, .ref l244, .ref l329, .ref l383, .ref l450, .ref l489, .ref l518, .ref l571, .ref l600, .ref l686] ++ [.ref l754, .ref l800])) g829.1
    have f837 := f824.upl (o := .lst ([.ref l93, .ref l160, .ref l244, .ref l329, .ref l383, .ref l450, .ref l489, .ref l518, .ref l571, .ref l600, .ref l686] ++ [.ref l754, .ref l800])) g829.1
    have f838 := f825.upl (o := .lst ([.ref l93, .ref l160, .ref l244, .ref l329, .ref l383, .ref l450, .ref l489, .ref l518, .ref l571, .ref l600, .ref l686] ++ [.ref l754, .ref l800])) g829.1
    have f839 := f826.upl (o := .lst ([.ref l93, .ref l160, .ref l244, .ref l329, .ref l383, .ref l450, .ref l489, .ref l518, .ref l571, .ref l600, .ref l686] ++ [.ref l754, .ref l800])) g829.1
    have f840 := f827.upl (o := .lst ([.ref l93, .ref l160, .ref l244, .ref l329, .ref l383, .ref l450, .ref l489, .ref l518, .ref l571, .ref l600, .ref l686] ++ [.ref l754, .ref l800])) g829.1
    have z834 : Same H (upd H820 R (.lst ([.ref l93, .ref l160, .ref l244, .ref l329, .ref l383, .ref l450, .ref l489, .ref l518, .ref l571, .ref l600, .ref l686] ++ [.ref l754, .ref l800]))) := same_mut g828 nR0
    generalize upd H820 R (.lst ([.ref l93, .ref l160, .ref l244, .ref l329, .ref l383, .ref l450, .ref l489, .ref l518, .ref l571, .ref l600, .ref l686] ++ [.ref l754, .ref l800])) = H832 at *
    refine ⟨_, rfl, R, rfl, ⟨_, SqL.of hR833.1⟩, fun D nD => lc_list (K := K) (a := R) (xs := ([l93, l160, l244, l329, l383, l450, l489, l518, l571, l600, l686, l754, l800] : List Addr).map V.ref) (fun i Hh => Same H832 Hh ∧ Hh D = some (.lst ((List.replicate i true).map V.bl)))
      ⟨same_new nD, upd_same⟩ (fun i Hh _ hh => SqL.of (hh.1 _ _ hR833.1)) ?_ ?_⟩
    · rintro i y Hh hi ⟨zz, hD⟩
      obtain ⟨l, hli, rfl⟩ := get_map hi
      have hi4 : i < 13 := (List.getElem?_eq_some_iff.mp hli).1
      refine ⟨rfl, yes_of ?_⟩
      refine iteT ?_
      refine ⟨_, rfl, l, rfl, (memq (R := fun x => Row A H832 x ∧ x ≠ R) hli hR833.2).1.mono zz, fun H3 z3 => ?_⟩
      refine ⟨_, z3 _ _ hD, ?_, same_mut (zz.trans z3) nD, ?_⟩
      · rw [List.length_map, List.length_replicate]
        exact Nat.lt_trans hi4 (by decide)
      · rw [upd_same, List.replicate_succ', List.map_append]
        rfl
    rintro H9 ⟨z9, hD⟩
    refine ⟨D, List.replicate 13 true, rfl, SqL.of hD, ?_⟩
    exact k _ (z834.trans z9)
end
/-! ### k04: the order -/
theorem order3 (p q : Rat) : (decide (p < q) = true ∧ decide (p = q) = false ∧ decide (q < p) = false) ∨ (decide (p < q) = false ∧ decide (p = q) = true ∧ decide (q < p) = false) ∨ (decide (p < q) = false ∧ decide (p = q) = false ∧ decide (q < p) = true) := by
  simp only [decide_eq_true_eq, decide_eq_false_iff_not]
  grind
theorem words3 (p q : Rat) (ys : List Str) (hp : ys.Perm [sB (decide (p < q)), sB (decide (p = q)), sB (decide (q < p))]) (hs : sortedS ys = true) : ys = [("False" : Str), ("False" : Str), ("True" : Str)] := by
  have hc : ys.Perm [("False" : Str), ("False" : Str), ("True" : Str)] := by
    refine hp.trans ?_
    rcases order3 p q with ⟨h1, h2, h3⟩ | ⟨h1, h2, h3⟩ | ⟨h1, h2, h3⟩ <;> rw [h1, h2, h3]
    · exact ((List.Perm.swap _ _ _).trans ((List.Perm.swap _ _ _).cons _))
    · exact ((List.Perm.swap _ _ _).cons _)
    · exact .refl _
  have hl := hc.length_eq
  match ys, hl, hc, hs with
  | [x, y, z], _, hc, hs =>
    have m : ∀ u ∈ [x, y, z], u = "False" ∨ u = "True" := fun u hu => by
      have := hc.mem_iff.mp hu
      simpa using this
    have hcount := hc.count_eq ("True" : Str)
    rcases m x (by simp) with rfl | rfl <;> rcases m y (by simp) with rfl | rfl <;> rcases m z (by simp) with rfl | rfl
    all_goals first
      | rfl
      | (exfalso; revert hs; decide +kernel)
      | (exfalso; revert hcount; decide +kernel)
theorem zero_eq (p : Rat) : (!decide (p = 0)) = !decide (p = Rat.divInt 0 1) := by
  rw [show Rat.divInt 0 1 = 0 by decide]
theorem nb {a b : Bool} (h : a = b) : (!decide (V.bl a = V.bl b)) = false := by
  subst h
  simp
theorem far_add (p q r : Rat) : decide (p + r < q + r) = decide (p < q) := decide_eq_decide.mpr (by grind)
theorem far_sub (p q r : Rat) : decide (p - r < q - r) = decide (p < q) := decide_eq_decide.mpr (by grind)
theorem far_neg (p q : Rat) : decide (-p < -q) = decide (q < p) := decide_eq_decide.mpr (by grind)
theorem far_less {p q r : Rat} (h : Rat.divInt 0 1 < r) : decide (p * r < q * r) = decide (p < q) := decide_eq_decide.mpr (by
  rw [show Rat.divInt 0 1 = 0 by decide] at h
  exact Rat.mul_lt_mul_right h)
theorem far_more {p q r : Rat} (h : r < Rat.divInt 0 1) : decide (p * r < q * r) = decide (q < p) := decide_eq_decide.mpr (by
  rw [show Rat.divInt 0 1 = 0 by decide] at h
  have h2 : 0 < -r := by grind
  have := Rat.mul_lt_mul_right (a := q) (b := p) h2
  grind)
theorem trans3 {p q r : Rat} (h : p < q) (k : q < r) : p < r := by grind
theorem rabs_nn (p : Rat) : ¬ rabs p < Rat.divInt 0 1 := by
  rw [show Rat.divInt 0 1 = 0 by decide]
  unfold rabs
  split <;> grind
theorem rabs_self (p : Rat) : (!decide (V.bl (decide (rabs p = p)) = V.bl (decide (p < Rat.divInt 0 1)))) = true := by
  rw [show Rat.divInt 0 1 = 0 by decide]
  unfold rabs
  by_cases h : p < 0
  · have : ¬ (-p = p) := by grind
    simp [h, this]
  · simp [h]
section
variable {P : Program} {w : World} {K : PySem.W.Frag} {mg : Str → Option Value} {base : Heap} {A : Ad}
theorem ok_law_order_right (T : Txt K mg A) : FnOk P w K mg base CX0 6 A.f_law_order_right A.d_law_order_right ["a", "b", "c"] (spSums A) := by
  refine T.F_law_order_right.ok sc_law_order_right (fun vs H Q E h => ?_) (fun cdv B outer s H vs Q E hr h => ?_)
  · obtain ⟨a, b, c, p, q, r, rfl, _⟩ := h
    rfl
  · obtain ⟨a, b, c, p, q, r, rfl, ha, hb, hc, ba, bb, bc, k⟩ := h
    have hr1 : Room 1 _ := hr.mono (by decide)
    have hr2 : Room 2 _ := hr.mono (by decide)
    have hr3 : Room 3 _ := hr.mono (by decide)
    have hr4 : Room 4 _ := hr.mono (by decide)
    have hr5 : Room 5 _ := hr.mono (by decide)
    obtain ⟨_, r1Number, b1Number⟩ := b1_Number T
    refine ⟨_, (pss_cons (ps_par3 (i := 3) (j := 4) (l := 5) rfl sc_law_order_right.nd rfl rfl rfl (by decide) (by decide) (by decide) rfl rfl rfl (pa_cons (pe_meth (pv 0) T.cl_Number T.m_Number_is_less (ok_Number_is_less T) hr1 T.b_Number_is_less .nil pass0 (pa_cons (pv 1) pa_nil)) (pa_cons (pe_meth (pv 1) T.cl_Number T.m_Number_is_less (ok_Number_is_less T) hr1 T.b_Number_is_less .nil pass0 (pa_cons (pv 0) pa_nil)) (pa_cons (pe_make T.M_Number (ok_Number_init T) hr3 rfl T.g_Number b1Number r1Number pass0 (pa_cons pe_int pa_nil)) pa_nil))) (by rfl))
      (pss_cons (ps_set (i := 6) sc_law_order_right.nd rfl (Or.inl rfl) (pe_callB cr_sortedS (by rfl) T.z_sorted (by decide +kernel) (pa_cons (pe_lst (pa_cons (pe_callB call_repr_bl (by rfl) T.z_repr (by decide +kernel) (pa_cons (pv 3) pa_nil)) (pa_cons (pe_callB call_repr_bl (by rfl) T.z_repr (by decide +kernel) (pa_cons (pe_cmpR (opOwnEq K (ok_Number_eq T) T.b_Number_eq T.m_Number_eq.at_ T.m_Number_eq.fn hr1 pass0) (pv 0) (pv 1) (nomark _)) pa_nil)) (pa_cons (pe_callB call_repr_bl (by rfl) T.z_repr (by decide +kernel) (pa_cons (pv 4) pa_nil)) pa_nil)))) pa_nil)))
      (pss_cons (ps_if (pt_cmpR (opNeD K hr.units) (pv 6) (pe_lst (pa_cons pe_str (pa_cons pe_str (pa_cons pe_str pa_nil)))) (nomark _)) (pss_one (ps_ret pe_bl)) pss_nil)
      (pss_cons (ps_par (i := 7) (j := 8) rfl sc_law_order_right.nd rfl rfl (by decide) rfl rfl (pa_cons (pe_op (op_own2 (ok_Number_add T) T.b_Number_add T.m_Number_add.at_ T.m_Number_add.fn T.sf_Number hr4 pass0) (pv 0) (pv 2)) (pa_cons (pe_op (op_own2 (ok_Number_add T) T.b_Number_add T.m_Number_add.at_ T.m_Number_add.fn T.sf_Number hr4 pass0) (pv 1) (pv 2)) pa_nil)) (by rfl))
      (pss_cons (ps_par (i := 9) (j := 10) rfl sc_law_order_right.nd rfl rfl (by decide) rfl rfl (pa_cons (pe_op (op_own2 (ok_Number_sub T) T.b_Number_sub T.m_Number_sub.at_ T.m_Number_sub.fn T.sf_Number hr4 pass0) (pv 0) (pv 2)) (pa_cons (pe_op (op_own2 (ok_Number_sub T) T.b_Number_sub T.m_Number_sub.at_ T.m_Number_sub.fn T.sf_Number hr4 pass0) (pv 1) (pv 2)) pa_nil)) (by rfl))
      (pss_cons (ps_par3 (i := 11) (j := 12) (l := 13) rfl sc_law_order_right.nd rfl rfl rfl (by decide) (by decide) (by decide) rfl rfl rfl (pa_cons (pe_op (op_own2 (ok_Number_mul T) T.b_Number_mul T.m_Number_mul.at_ T.m_Number_mul.fn T.sf_Number hr4 pass0) (pv 0) (pv 2)) (pa_cons (pe_op (op_own2 (ok_Number_mul T) T.b_Number_mul T.m_Number_mul.at_ T.m_Number_mul.fn T.sf_Number hr4 pass0) (pv 1) (pv 2)) (pa_cons (pe_lst (pa_cons (pe_un (un_ownNeg (ok_Number_neg T) T.b_Number_neg T.m_Number_neg.at_ T.m_Number_neg.fn hr4 pass0) (pv 0)) (pa_cons (pe_un (un_ownNeg (ok_Number_neg T) T.b_Number_neg T.m_Number_neg.at_ T.m_Number_neg.fn hr4 pass0) (pv 1)) (pa_cons (pe_callB (call_ownAbs (ok_Number_abs T) T.b_Number_abs T.m_Number_abs.at_ T.m_Number_abs.fn hr5 pass0) (by rfl) T.z_abs (by decide +kernel) (pa_cons (pv 0) pa_nil)) pa_nil)))) pa_nil))) (by rfl))
      (pss_cons (ps_set (i := 14) sc_law_order_right.nd rfl (Or.inl rfl) (pe_op op_cat (pe_lst (pa_cons (pv 7) (pa_cons (pv 8) (pa_cons (pv 9) (pa_cons (pv 10) (pa_cons (pv 11) (pa_cons (pv 12) pa_nil))))))) (pv 13)))
      (pss_cons (ps_if (pt_not (pt_val (pe_callB (cr_all rfl) (by rfl) T.z_all (by decide +kernel) (pa_cons (pe_lc (own := [("one", 15)]) (g := gName 15) (tt := tYes) rfl sc_law_order_right.nd (pi_list (pv 14)) (blkOk_by (N := N_law_order_right) (sc := defScope s_law_order_right) (by decide +kernel)) (fun _ _ _ _ _ => (pg_name (i := 15) sc_law_order_right.nd rfl (Or.inl rfl))) (fun _ _ _ _ _ => pts_nil) (fun _ _ _ _ _ => (pe_callB (cIsi K) (by rfl) T.z_isinstance (by decide +kernel) (pa_cons (pv 15) (pa_cons (pe_glob (v := .ref A.c_Number) (by rfl) T.g_Number rfl) pa_nil))))) pa_nil)))) (pss_one (ps_ret pe_bl)) pss_nil)
      (pss_cons (ps_if (PW.pt (pw_or (pt_cmpR op_ne (pe_meth (pv 7) T.cl_Number T.m_Number_is_less (ok_Number_is_less T) hr1 T.b_Number_is_less .nil pass0 (pa_cons (pv 8) pa_nil)) (pv 3) (nomark _)) (pw_or1 (pt_cmpR op_ne (pe_meth (pv 10) T.cl_Number T.m_Number_is_less (ok_Number_is_less T) hr1 T.b_Number_is_less .nil pass0 (pa_cons (pv 9) pa_nil)) (pv 4) (nomark _))))) (pss_one (ps_ret pe_bl)) pss_nil)
      (pss_cons (ps_if (pt_cmpR op_ne (pe_meth (pe_ix ix_list (pv 13) pe_int (fun _ _ => rfl)) T.cl_Number T.m_Number_is_less (ok_Number_is_less T) hr1 T.b_Number_is_less .nil pass0 (pa_cons (pe_ix ix_list (pv 13) pe_int (fun _ _ => rfl)) pa_nil)) (pv 4) (nomark _)) (pss_one (ps_ret pe_bl)) pss_nil)
      (Evl.pss_cut (ps_if (PW.pt (pw_and (pt_val (pe_meth (pv 5) T.cl_Number T.m_Number_is_less (ok_Number_is_less T) hr1 T.b_Number_is_less .nil pass0 (pa_cons (pv 2) pa_nil))) (pw_and1 (pt_cmpR op_ne (pe_meth (pv 11) T.cl_Number T.m_Number_is_less (ok_Number_is_less T) hr1 T.b_Number_is_less .nil pass0 (pa_cons (pv 12) pa_nil)) (pv 3) (nomark _))))) (pss_one (ps_ret pe_bl)) pss_nil)
      (Evl.pss_cut (ps_if (PW.pt (pw_and (pt_val (pe_meth (pv 2) T.cl_Number T.m_Number_is_less (ok_Number_is_less T) hr1 T.b_Number_is_less .nil pass0 (pa_cons (pv 5) pa_nil))) (pw_and1 (pt_cmpR op_ne (pe_meth (pv 11) T.cl_Number T.m_Number_is_less (ok_Number_is_less T) hr1 T.b_Number_is_less .nil pass0 (pa_cons (pv 12) pa_nil)) (pv 4) (nomark _))))) (pss_one (ps_ret pe_bl)) pss_nil)
      (Evl.pss_cut (ps_if (PW.pt (pw_and (pt_val (pv 3)) (pw_and (pt_val (pe_meth (pv 1) T.cl_Number T.m_Number_is_less (ok_Number_is_less T) hr1 T.b_Number_is_less .nil pass0 (pa_cons (pv 2) pa_nil))) (pw_and1 (pt_not (pt_val (pe_meth (pv 0) T.cl_Number T.m_Number_is_less (ok_Number_is_less T) hr1 T.b_Number_is_less .nil pass0 (pa_cons (pv 2) pa_nil)))))))) (pss_one (ps_ret pe_bl)) pss_nil)
      (pss_cons (ps_if (PW.pt (pw_or (pt_cmpR op_ne (pe_callTy (call_ownBool (ok_Number_bool T) T.b_Number_bool T.m_Number_bool.at_ T.m_Number_bool.fn hr3 pass0) (by rfl) T.z_bool (by decide +kernel) (pa_cons (pv 0) pa_nil)) (pe_cmpR (op_ownNe K (ok_Number_eq T) T.b_Number_eq T.ne_Number T.cm_Number T.m_Number_eq.at_ T.m_Number_eq.fn hr2 pass0) (pv 0) (pv 5) (nomark _)) (nomark _)) (pw_or1 (pt_val (pe_meth (pe_ix ix_list (pv 13) pe_int (fun _ _ => rfl)) T.cl_Number T.m_Number_is_less (ok_Number_is_less T) hr1 T.b_Number_is_less .nil pass0 (pa_cons (pv 5) pa_nil)))))) (pss_one (ps_ret pe_bl)) pss_nil)
      (pss_one (ps_ret (pe_cmpR op_ne (pe_cmpR (opOwnEq K (ok_Number_eq T) T.b_Number_eq T.m_Number_eq.at_ T.m_Number_eq.fn hr1 pass0) (pe_ix ix_list (pv 13) pe_int (fun _ _ => rfl)) (pv 0) (nomark _)) (pe_meth (pv 0) T.cl_Number T.m_Number_is_less (ok_Number_is_less T) hr1 T.b_Number_is_less .nil pass0 (pa_cons (pv 5) pa_nil)) (nomark _)))))))))))))))))), ?_⟩
    refine ⟨_, rfl, a, _, _, rfl, ha.choose_spec, nf_no _ (by decide +kernel) (by decide +kernel), _, rfl, a, b, _, _, rfl, ha, hb, (ba.mono (by decide)), (bb.mono (by decide)), _, rfl, b, _, _, rfl, hb.choose_spec, nf_no _ (by decide +kernel) (by decide +kernel), _, rfl, b, a, _, _, rfl, hb, ha, (bb.mono (by decide)), (ba.mono (by decide)), ?_⟩
    intro x1 dx2 n3 nd4 ne5
    refine ⟨x1, dx2, 0, 1, rfl, by decide, up_lt (n := 9000) (show (1 : Int).natAbs < 2 ^ 1 by decide) (by decide), upd_same, rfl, ?_⟩
    obtain ⟨s6, h7⟩ := made_num (C := A.c_Number) (Rat.divInt 0 1) n3 nd4
    generalize upd (upd (upd H dx2 (.own x1)) x1 (.ins A.c_Number dx2 [])) x1 (.ins A.c_Number dx2 (nf (Rat.divInt 0 1))) = H8 at *
    have f9 := ha.mono s6
    have f10 := hb.mono s6
    have f11 := hc.mono s6
    have g12 := (Same.refl H).trans s6
    have bd13 : Bd 1 (Rat.divInt 0 1) := ⟨by decide, by decide⟩
    refine ⟨_, _, _, rfl, ?_⟩
    refine stT (σ' := [some (.ref a), some (.ref b), some (.ref c), some (.bl (decide (p < q))), some (.bl (decide (q < p))), some (.ref x1), none, none, none, none, none, none, none, none, none, none]) rfl ?_
    refine ⟨_, rfl, _, rfl, _, rfl, _, rfl, a, _, _, _, rfl, f9.choose_spec, .base (.ins f10.choose_spec T.cl_Number T.ca_Number T.cn T.ct T.cm_Number), (by simp [PySem.W.notFirst]), a, b, _, _, rfl, f9, f10, _, rfl, _, rfl, _, rfl, (by show 3 ≤ sizeLine; decide), fun l14 nl15 => ?_⟩
    have e18 : (upd H8 l14 (.lst [.str (sB (decide (p < q))), .str (sB (decide (p = q))), .str (sB (decide (q < p)))])) l14 = some (.lst [.str (sB (decide (p < q))), .str (sB (decide (p = q))), .str (sB (decide (q < p)))]) := upd_same
    have s17 := same_new (o := .lst [.str (sB (decide (p < q))), .str (sB (decide (p = q))), .str (sB (decide (q < p)))]) nl15
    generalize upd H8 l14 (.lst [.str (sB (decide (p < q))), .str (sB (decide (p = q))), .str (sB (decide (q < p)))]) = H16 at *
    have f19 := f9.mono s17
    have f20 := f10.mono s17
    have f21 := f11.mono s17
    have f22 := h7.mono s17
    have g23 := g12.trans s17
    clear f9 f10 f11 h7 g12
    refine ⟨l14, [sB (decide (p < q)), sB (decide (p = q)), sB (decide (q < p))], rfl, SqL.of e18, by show 3 < 64; decide, fun ys W hp hs nW => ?_⟩
    obtain rfl := words3 p q ys hp hs
    refine stT (σ' := [some (.ref a), some (.ref b), some (.ref c), some (.bl (decide (p < q))), some (.bl (decide (q < p))), some (.ref x1), some (.ref W), none, none, none, none, none, none, none, none, none]) rfl ?_
    have eW : (upd H16 W (.lst [.str "False", .str "False", .str "True"])) W = some (.lst [.str "False", .str "False", .str "True"]) := upd_same
    have s25 := same_new (o := .lst [.str "False", .str "False", .str "True"]) nW
    have ew2 : ([("False" : Str), "False", "True"].map V.str) = [.str "False", .str "False", .str "True"] := rfl
    rw [ew2]
    generalize upd H16 W (.lst [.str "False", .str "False", .str "True"]) = H24 at *
    have f26 := f19.mono s25
    have f27 := f20.mono s25
    have f28 := f21.mono s25
    have f29 := f22.mono s25
    have g30 := g23.trans s25
    clear f19 f20 f21 f22 g23
    refine ⟨_, rfl, (by show 3 ≤ sizeLine; decide), fun l31 nl32 => ?_⟩
    have e35 : (upd H24 l31 (.lst [.str "False", .str "False", .str "True"])) l31 = some (.lst [.str "False", .str "False", .str "True"]) := upd_same
    have s34 := same_new (o := .lst [.str "False", .str "False", .str "True"]) nl32
    generalize upd H24 l31 (.lst [.str "False", .str "False", .str "True"]) = H33 at *
    have f36 := f26.mono s34
    have f37 := f27.mono s34
    have f38 := f28.mono s34
    have f39 := f29.mono s34
    have g40 := g30.trans s34
    clear f26 f27 f28 f29 g30
    refine ⟨.list [.str "False", .str "False", .str "True"], .list [.str "False", .str "False", .str "True"], .lst (SqL.of (s34 _ _ eW)) (.cons (.str _) (.cons (.str _) (.cons (.str _) .nil))), .lst (SqL.of e35) (.cons (.str _) (.cons (.str _) (.cons (.str _) .nil))), by decide +kernel, by decide +kernel, _, rfl, ?_⟩
    refine iteF' (by decide +kernel) ?_
    refine ⟨_, rfl, _, rfl, a, _, _, c, _, _, rfl, rfl, f36.choose_spec, f38.choose_spec, a, c, _, _, rfl, f36, f38, (ba.mono (by decide)), (bc.mono (by decide)), fun x41 H42 s43 n44 h45 => ?_⟩
    have f46 := f36.mono s43
    have f47 := f37.mono s43
    have f48 := f38.mono s43
    have f49 := f39.mono s43
    have g50 := g40.trans s43
    clear f36 f37 f38 f39 g40
    refine ⟨_, rfl, _, rfl, b, _, _, c, _, _, rfl, rfl, f47.choose_spec, f48.choose_spec, b, c, _, _, rfl, f47, f48, (bb.mono (by decide)), (bc.mono (by decide)), fun x51 H52 s53 n54 h55 => ?_⟩
    have f56 := f46.mono s53
    have f57 := f47.mono s53
    have f58 := f48.mono s53
    have f59 := f49.mono s53
    have f60 := h45.mono s53
    have g61 := g50.trans s53
    clear f46 f47 f48 f49 h45 g50
    refine ⟨_, _, rfl, ?_⟩
    refine stT (σ' := [some (.ref a), some (.ref b), some (.ref c), some (.bl (decide (p < q))), some (.bl (decide (q < p))), some (.ref x1), some (.ref W), some (.ref x41), some (.ref x51), none, none, none, none, none, none, none]) rfl ?_
    refine ⟨_, rfl, _, rfl, a, _, _, c, _, _, rfl, rfl, f56.choose_spec, f58.choose_spec, a, c, _, _, rfl, f56, f58, (ba.mono (by decide)), (bc.mono (by decide)), fun x62 H63 s64 n65 h66 => ?_⟩
    have f67 := f56.mono s64
    have f68 := f57.mono s64
    have f69 := f58.mono s64
    have f70 := f59.mono s64
    have f71 := f60.mono s64
    have f72 := h55.mono s64
    have g73 := g61.trans s64
    clear f56 f57 f58 f59 f60 h55 g61
    refine ⟨_, rfl, _, rfl, b, _, _, c, _, _, rfl, rfl, f68.choose_spec, f69.choose_spec, b, c, _, _, rfl, f68, f69, (bb.mono (by decide)), (bc.mono (by decide)), fun x74 H75 s76 n77 h78 => ?_⟩
    have f79 := f67.mono s76
    have f80 := f68.mono s76
    have f81 := f69.mono s76
    have f82 := f70.mono s76
    have f83 := f71.mono s76
    have f84 := f72.mono s76
    have f85 := h66.mono s76
    have g86 := g73.trans s76
    clear f67 f68 f69 f70 f71 f72 h66 g73
    refine ⟨_, _, rfl, ?_⟩
    refine stT (σ' := [some (.ref a), some (.ref b), some (.ref c), some (.bl (decide (p < q))), some (.bl (decide (q < p))), some (.ref x1), some (.ref W), some (.ref x41), some (.ref x51), some (.ref x62), some (.ref x74), none, none, none, none, none]) rfl ?_
    refine ⟨_, rfl, _, rfl, a, _, _, c, _, _, rfl, rfl, f79.choose_spec, f81.choose_spec, a, c, _, _, rfl, f79, f81, (ba.mono (by decide)), (bc.mono (by decide)), fun x87 H88 s89 n90 h91 => ?_⟩
    have f92 := f79.mono s89
    have f93 := f80.mono s89
    have f94 := f81.mono s89
    have f95 := f82.mono s89
    have f96 := f83.mono s89
    have f97 := f84.mono s89
    have f98 := f85.mono s89
    have f99 := h78.mono s89
    have g100 := g86.trans s89
    clear f79 f80 f81 f82 f83 f84 f85 h78 g86
    refine ⟨_, rfl, _, rfl, b, _, _, c, _, _, rfl, rfl, f93.choose_spec, f94.choose_spec, b, c, _, _, rfl, f93, f94, (bb.mono (by decide)), (bc.mono (by decide)), fun x101 H102 s103 n104 h105 => ?_⟩
    have f106 := f92.mono s103
    have f107 := f93.mono s103
    have f108 := f94.mono s103
    have f109 := f95.mono s103
    have f110 := f96.mono s103
    have f111 := f97.mono s103
    have f112 := f98.mono s103
    have f113 := f99.mono s103
    have f114 := h91.mono s103
    have g115 := g100.trans s103
    clear f92 f93 f94 f95 f96 f97 f98 f99 h91 g100
    refine ⟨_, rfl, a, _, _, rfl, f106.choose_spec, a, _, rfl, f106, (ba.mono (by decide)), fun x116 H117 s118 n119 h120 => ?_⟩
    have f121 := f106.mono s118
    have f122 := f107.mono s118
    have f123 := f108.mono s118
    have f124 := f109.mono s118
    have f125 := f110.mono s118
    have f126 := f111.mono s118
    have f127 := f112.mono s118
    have f128 := f113.mono s118
    have f129 := f114.mono s118
    have f130 := h105.mono s118
    have g131 := g115.trans s118
    clear f106 f107 f108 f109 f110 f111 f112 f113 f114 h105 g115
    refine ⟨_, rfl, b, _, _, rfl, f122.choose_spec, b, _, rfl, f122, (bb.mono (by decide)), fun x132 H133 s134 n135 h136 => ?_⟩
    have f137 := f121.mono s134
    have f138 := f122.mono s134
    have f139 := f123.mono s134
    have f140 := f124.mono s134
    have f141 := f125.mono s134
    have f142 := f126.mono s134
    have f143 := f127.mono s134
    have f144 := f128.mono s134
    have f145 := f129.mono s134
    have f146 := f130.mono s134
    have f147 := h120.mono s134
    have g148 := g131.trans s134
    clear f121 f122 f123 f124 f125 f126 f127 f128 f129 f130 h120 g131
    refine ⟨_, rfl, a, _, _, rfl, f137.choose_spec, a, _, rfl, f137, (ba.mono (by decide)), fun x149 H150 s151 n152 h153 => ?_⟩
    have f154 := f137.mono s151
    have f155 := f138.mono s151
    have f156 := f139.mono s151
    have f157 := f140.mono s151
    have f158 := f141.mono s151
    have f159 := f142.mono s151
    have f160 := f143.mono s151
    have f161 := f144.mono s151
    have f162 := f145.mono s151
    have f163 := f146.mono s151
    have f164 := f147.mono s151
    have f165 := h136.mono s151
    have g166 := g148.trans s151
    clear f137 f138 f139 f140 f141 f142 f143 f144 f145 f146 f147 h136 g148
    refine ⟨(by show 3 ≤ sizeLine; decide), fun l167 nl168 => ?_⟩
    have e171 : (upd H150 l167 (.lst [.ref x116, .ref x132, .ref x149])) l167 = some (.lst [.ref x116, .ref x132, .ref x149]) := upd_same
    have s170 := same_new (o := .lst [.ref x116, .ref x132, .ref x149]) nl168
    generalize upd H150 l167 (.lst [.ref x116, .ref x132, .ref x149]) = H169 at *
    have f172 := f154.mono s170
    have f173 := f155.mono s170
    have f174 := f156.mono s170
    have f175 := f157.mono s170
    have f176 := f158.mono s170
    have f177 := f159.mono s170
    have f178 := f160.mono s170
    have f179 := f161.mono s170
    have f180 := f162.mono s170
    have f181 := f163.mono s170
    have f182 := f164.mono s170
    have f183 := f165.mono s170
    have f184 := h153.mono s170
    have g185 := g166.trans s170
    clear f154 f155 f156 f157 f158 f159 f160 f161 f162 f163 f164 f165 h153 g166
    refine ⟨_, _, _, rfl, ?_⟩
    refine stT (σ' := [some (.ref a), some (.ref b), some (.ref c), some (.bl (decide (p < q))), some (.bl (decide (q < p))), some (.ref x1), some (.ref W), some (.ref x41), some (.ref x51), some (.ref x62), some (.ref x74), some (.ref x87), some (.ref x101), some (.ref l167), none, none]) rfl ?_
    refine ⟨_, rfl, _, rfl, _, rfl, _, rfl, _, rfl, _, rfl, (by show 6 ≤ sizeLine; decide), fun l186 nl187 => ?_⟩
    have e190 : (upd H169 l186 (.lst [.ref x41, .ref x51, .ref x62, .ref x74, .ref x87, .ref x101])) l186 = some (.lst [.ref x41, .ref x51, .ref x62, .ref x74, .ref x87, .ref x101]) := upd_same
    have s189 := same_new (o := .lst [.ref x41, .ref x51, .ref x62, .ref x74, .ref x87, .ref x101]) nl187
    generalize upd H169 l186 (.lst [.ref x41, .ref x51, .ref x62, .ref x74, .ref x87, .ref x101]) = H188 at *
    have f191 := f172.mono s189
    have f192 := f173.mono s189
    have f193 := f174.mono s189
    have f194 := f175.mono s189
    have f195 := f176.mono s189
    have f196 := f177.mono s189
    have f197 := f178.mono s189
    have f198 := f179.mono s189
    have f199 := f180.mono s189
    have f200 := f181.mono s189
    have f201 := f182.mono s189
    have f202 := f183.mono s189
    have f203 := f184.mono s189
    have g204 := g185.trans s189
    have g205 := s189 _ _ e171
    clear f172 f173 f174 f175 f176 f177 f178 f179 f180 f181 f182 f183 f184 g185 e171
    refine ⟨_, rfl, l186, l167, _, _, rfl, rfl, e190, g205, (by show 9 ≤ sizeLine; decide), fun l206 nl207 => ?_⟩
    have e210 : (upd H188 l206 (.lst (([x41, x51, x62, x74, x87, x101, x116, x132, x149] : List Addr).map V.ref))) l206 = some (.lst (([x41, x51, x62, x74, x87, x101, x116, x132, x149] : List Addr).map V.ref)) := upd_same
    have s209 := same_new (o := .lst (([x41, x51, x62, x74, x87, x101, x116, x132, x149] : List Addr).map V.ref)) nl207
    refine stT (σ' := [some (.ref a), some (.ref b), some (.ref c), some (.bl (decide (p < q))), some (.bl (decide (q < p))), some (.ref x1), some (.ref W), some (.ref x41), some (.ref x51), some (.ref x62), some (.ref x74), some (.ref x87), some (.ref x101), some (.ref l167), some (.ref l206), none]) rfl ?_
    change tSeq _ _ _ _ (upd H188 l206 (.lst (([x41, x51, x62, x74, x87, x101, x116, x132, x149] : List Addr).map V.ref)))
    generalize upd H188 l206 (.lst (([x41, x51, x62, x74, x87, x101, x116, x132, x149] : List Addr).map V.ref)) = H208 at *
    have f211 := f191.mono s209
    have f212 := f192.mono s209
    have f213 := f193.mono s209
    have f214 := f194.mono s209
    have f215 := f195.mono s209
    have f216 := f196.mono s209
    have f217 := f197.mono s209
    have f218 := f198.mono s209
    have f219 := f199.mono s209
    have f220 := f200.mono s209
    have f221 := f201.mono s209
    have f222 := f202.mono s209
    have f223 := f203.mono s209
    have g224 := g204.trans s209
    have g225 := s209 _ _ g205
    clear f191 f192 f193 f194 f195 f196 f197 f198 f199 f200 f201 f202 f203 g204 g205
    have hall : ∀ x ∈ ([x41, x51, x62, x74, x87, x101, x116, x132, x149] : List Addr), ∃ u, Num A.c_Number H208 x u := List.forall_mem_cons.mpr ⟨⟨_, f215⟩, List.forall_mem_cons.mpr ⟨⟨_, f216⟩, List.forall_mem_cons.mpr ⟨⟨_, f217⟩, List.forall_mem_cons.mpr ⟨⟨_, f218⟩, List.forall_mem_cons.mpr ⟨⟨_, f219⟩, List.forall_mem_cons.mpr ⟨⟨_, f220⟩, List.forall_mem_cons.mpr ⟨⟨_, f221⟩, List.forall_mem_cons.mpr ⟨⟨_, f222⟩, List.forall_mem_cons.mpr ⟨⟨_, f223⟩, List.forall_mem_nil _⟩⟩⟩⟩⟩⟩⟩⟩⟩
    refine ⟨_, rfl, l206, rfl, ⟨_, SqL.of e210⟩, fun D nD => lc_list (K := K) (a := l206) (xs := ([x41, x51, x62, x74, x87, x101, x116, x132, x149] : List Addr).map V.ref) (fun i Hh => Same H208 Hh ∧ Hh D = some (.lst ((List.replicate i true).map V.bl)))
      ⟨same_new nD, upd_same⟩ (fun i Hh _ hh => SqL.of (hh.1 _ _ e210)) ?_ ?_⟩
    · rintro i y Hh hi ⟨z, hD⟩
      obtain ⟨x, hai, rfl⟩ := get_map hi
      have hi4 : i < 9 := (List.getElem?_eq_some_iff.mp hai).1
      obtain ⟨u, hu⟩ := memq (R := fun x => ∃ u, Num A.c_Number H208 x u) hai hall
      obtain ⟨dx, ex⟩ := hu.mono z
      refine ⟨rfl, yes_of ?_⟩
      refine iteT ?_
      refine ⟨_, rfl, _, _, _, _, true, rfl, .own _, .base (.ins ex T.cl_Number T.ca_Number T.cn T.ct T.cm_Number), T.kit_NumNum, ?_⟩
      refine ⟨_, hD, ?_, same_mut z nD, ?_⟩
      · rw [List.length_map, List.length_replicate]
        exact Nat.lt_trans hi4 (by decide)
      · rw [upd_same, List.replicate_succ', List.map_append]
        rfl
    clear hall
    rintro H9 ⟨z9, hD⟩
    refine ⟨D, List.replicate 9 true, rfl, SqL.of hD, _, rfl, ?_⟩
    refine iteF' (by decide) ?_
    clear hD nD
    have f226 := f211.mono z9
    have f227 := f212.mono z9
    have f228 := f213.mono z9
    have f229 := f214.mono z9
    have f230 := f215.mono z9
    have f231 := f216.mono z9
    have f232 := f217.mono z9
    have f233 := f218.mono z9
    have f234 := f219.mono z9
    have f235 := f220.mono z9
    have f236 := f221.mono z9
    have f237 := f222.mono z9
    have f238 := f223.mono z9
    have g239 := g224.trans z9
    have g240 := z9 _ _ g225
    clear f211 f212 f213 f214 f215 f216 f217 f218 f219 f220 f221 f222 f223 g224 g225
    -- more.is_less(mate) != below or fewer.is_less(less) != above
    refine ⟨_, rfl, x41, _, _, rfl, f230.choose_spec, nf_no _ (by decide +kernel) (by decide +kernel), _, rfl, x41, x51, _, _, rfl, f230, f231, ((ba.add bc).mono (by decide)), ((bb.add bc).mono (by decide)), _, rfl, rfl, _, rfl, ?_⟩
    refine iteF' (nb (far_add p q r)) ?_
    refine ⟨_, rfl, x74, _, _, rfl, f233.choose_spec, nf_no _ (by decide +kernel) (by decide +kernel), _, rfl, x74, x62, _, _, rfl, f233, f232, ((bb.sub bc).mono (by decide)), ((ba.sub bc).mono (by decide)), _, rfl, rfl, _, rfl, ?_⟩
    refine iteF' (nb (far_sub q p r)) ?_
    refine ⟨_, rfl, l167, _, _, _, rfl, rfl, SqL.of g240, rfl, x116, _, _, rfl, f236.choose_spec, nf_no _ (by decide +kernel) (by decide +kernel), _, rfl, l167, _, _, _, rfl, rfl, SqL.of g240, rfl, x116, x132, _, _, rfl, f236, f237, (ba.neg.mono (by decide)), (bb.neg.mono (by decide)), _, rfl, rfl, _, rfl, ?_⟩
    refine iteF' (nb (far_neg p q)) ?_
    refine ⟨fun σ' H' => σ' = [some (.ref a), some (.ref b), some (.ref c), some (.bl (decide (p < q))), some (.bl (decide (q < p))), some (.ref x1), some (.ref W), some (.ref x41), some (.ref x51), some (.ref x62), some (.ref x74), some (.ref x87), some (.ref x101), some (.ref l167), some (.ref l206), none] ∧ H9 = H', ?_, ?_⟩
    · refine ⟨_, rfl, x1, _, _, rfl, f229.choose_spec, nf_no _ (by decide +kernel) (by decide +kernel), _, rfl, x1, c, _, _, rfl, f229, f228, (bd13.mono (by decide)), (bc.mono (by decide)), _, rfl, ?_⟩
      refine ite2 (fun h1 => ?_) (fun h1 => ?_)
      · have h1 := of_decide_eq_true h1
        refine ⟨_, rfl, x87, _, _, rfl, f234.choose_spec, nf_no _ (by decide +kernel) (by decide +kernel), _, rfl, x87, x101, _, _, rfl, f234, f235, ((ba.mul bc).mono (by decide)), ((bb.mul bc).mono (by decide)), _, rfl, rfl, _, rfl, ?_⟩
        exact iteF' (nb (far_less h1)) ⟨rfl, rfl⟩
      · exact iteF' rfl ⟨rfl, rfl⟩
    rintro σ' H' ⟨rfl, rfl⟩
    refine ⟨fun σ' H' => σ' = [some (.ref a), some (.ref b), some (.ref c), some (.bl (decide (p < q))), some (.bl (decide (q < p))), some (.ref x1), some (.ref W), some (.ref x41), some (.ref x51), some (.ref x62), some (.ref x74), some (.ref x87), some (.ref x101), some (.ref l167), some (.ref l206), none] ∧ H9 = H', ?_, ?_⟩
    · refine ⟨_, rfl, c, _, _, rfl, f228.choose_spec, nf_no _ (by decide +kernel) (by decide +kernel), _, rfl, c, x1, _, _, rfl, f228, f229, (bc.mono (by decide)), (bd13.mono (by decide)), _, rfl, ?_⟩
      refine ite2 (fun h1 => ?_) (fun h1 => ?_)
      · have h1 := of_decide_eq_true h1
        refine ⟨_, rfl, x87, _, _, rfl, f234.choose_spec, nf_no _ (by decide +kernel) (by decide +kernel), _, rfl, x87, x101, _, _, rfl, f234, f235, ((ba.mul bc).mono (by decide)), ((bb.mul bc).mono (by decide)), _, rfl, rfl, _, rfl, ?_⟩
        exact iteF' (nb (far_more h1)) ⟨rfl, rfl⟩
      · exact iteF' rfl ⟨rfl, rfl⟩
    rintro σ' H' ⟨rfl, rfl⟩
    refine ⟨fun σ' H' => σ' = [some (.ref a), some (.ref b), some (.ref c), some (.bl (decide (p < q))), some (.bl (decide (q < p))), some (.ref x1), some (.ref W), some (.ref x41), some (.ref x51), some (.ref x62), some (.ref x74), some (.ref x87), some (.ref x101), some (.ref l167), some (.ref l206), none] ∧ H9 = H', ?_, ?_⟩
    · refine ⟨_, rfl, _, rfl, ?_⟩
      refine ite2 (fun h1 => ?_) (fun h1 => ?_)
      · have h1 := of_decide_eq_true h1
        refine ⟨_, rfl, b, _, _, rfl, f227.choose_spec, nf_no _ (by decide +kernel) (by decide +kernel), _, rfl, b, c, _, _, rfl, f227, f228, (bb.mono (by decide)), (bc.mono (by decide)), _, rfl, ?_⟩
        refine ite2 (fun h2 => ?_) (fun h2 => ?_)
        · have h2 := of_decide_eq_true h2
          refine ⟨_, rfl, a, _, _, rfl, f226.choose_spec, nf_no _ (by decide +kernel) (by decide +kernel), _, rfl, a, c, _, _, rfl, f226, f228, (ba.mono (by decide)), (bc.mono (by decide)), _, rfl, ?_⟩
          exact iteF' (by rw [decide_eq_true (trans3 h1 h2)]; rfl) ⟨rfl, rfl⟩
        · exact iteF' rfl ⟨rfl, rfl⟩
      · exact iteF' rfl ⟨rfl, rfl⟩
    rintro σ' H' ⟨rfl, rfl⟩
    refine ⟨_, rfl, a, _, _, rfl, f226.choose_spec, a, _, rfl, f226, _, rfl, _, rfl, _, rfl, a, _, _, _, rfl, f226.choose_spec, .base (.ins f229.choose_spec T.cl_Number T.ca_Number T.cn T.ct T.cm_Number), (by simp [PySem.W.notFirst]), a, x1, _, _, rfl, f226, f229, _, rfl, rfl, _, rfl, ?_⟩
    refine iteF' (nb (by rw [zero_eq])) ?_
    refine ⟨_, rfl, l167, _, _, _, rfl, rfl, SqL.of g240, rfl, x149, _, _, rfl, f238.choose_spec, nf_no _ (by decide +kernel) (by decide +kernel), _, rfl, x149, x1, _, _, rfl, f238, f229, ((_root_.Q.Bd.rabs ba).mono (by decide)), (bd13.mono (by decide)), _, rfl, ?_⟩
    refine iteF' (decide_eq_false (rabs_nn p)) ?_
    refine ⟨_, rfl, l167, _, _, _, rfl, rfl, SqL.of g240, rfl, _, rfl, x149, _, _, _, rfl, f238.choose_spec, .base (.ins f226.choose_spec T.cl_Number T.ca_Number T.cn T.ct T.cm_Number), (by simp [PySem.W.notFirst]), x149, a, _, _, rfl, f238, f226, _, rfl, a, _, _, rfl, f226.choose_spec, nf_no _ (by decide +kernel) (by decide +kernel), _, rfl, a, x1, _, _, rfl, f226, f229, (ba.mono (by decide)), (bd13.mono (by decide)), rfl, ?_⟩
    rw [rabs_self]
    exact k _ g239
end
/-! ### the law -/
theorem but_same {p : Addr} {H0 H H' : Hp} (sb : SameBut p H H') (s : Same H0 H) (h : H0 p = none) : Same H0 H' := fun b o e => sb b o (s b o e) (ne_of_none e h)
def spLaw (K : PySem.W.Frag) : Sp := fun vs H Q _ => ∃ (a : Addr) (ns : List Int), vs = [.ref a] ∧ SqL K H a (ns.map V.int) ∧ ns.length ≤ 63 ∧ ∀ H', Q (.bl true) H'
section
variable {P : Program} {w : World} {K : PySem.W.Frag} {mg : Str → Option Value} {base : Heap} {A : Ad}
theorem turns3 (n : Int) : (if (if n < 3 then n else 3) > 1 then (if n < 3 then n else 3) else 1) ≤ 3 ∧ 1 ≤ (if (if n < 3 then n else 3) > 1 then (if n < 3 then n else 3) else 1) := by
  constructor <;> (repeat (first | split | omega))
theorem ok_law (T : Txt K mg A) : FnOk P w K mg base CX0 8 A.f_law A.d_law ["script"] (spLaw K) := by
  refine T.F_law.ok sc_law (fun vs H Q E h => ?_) (fun cdv B outer s H vs Q E hr h => ?_)
  · obtain ⟨a, ns, rfl, _⟩ := h
    rfl
  · obtain ⟨a, ns, rfl, hS, hlen, k⟩ := h
    have hr1 : Room 1 _ := hr.mono (by decide)
    have hr4 : Room 4 _ := hr.mono (by decide)
    have hr6 : Room 6 _ := hr.mono (by decide)
    refine ⟨_, (pss_cons (ps_for PassesOwn.never rfl (pi_range1 rfl T.z_range (pa_cons (pe_callB (call_max2 rfl) (by rfl) T.z_max (by decide +kernel) (pa_cons pe_int (pa_cons (pe_callB (call_min2 rfl) (by rfl) T.z_min (by decide +kernel) (pa_cons pe_int (pa_cons (pe_callB call_len_seq (by rfl) T.z_len (by decide +kernel) (pa_cons (pv 0) pa_nil)) pa_nil))) pa_nil))) pa_nil)) (pg_name (i := 1) sc_law.nd rfl (Or.inl rfl))
      (pss_cons (ps_set (i := 2) sc_law.nd rfl (Or.inl rfl) (pe_call (ok_law_pot T) hr1 rfl T.g_law_pot T.F_law_pot.kp T.b_law_pot .nil pass0 (pa_cons (pv 0) (pa_cons (pv 1) pa_nil))))
      (pss_one (ps_for PassesOwn.never rfl (pi_range1 rfl T.z_range (pa_cons pe_int pa_nil)) (pg_name (i := 3) sc_law.nd rfl (Or.inl rfl))
      (pss_cons (ps_par3 (i := 4) (j := 5) (l := 6) rfl sc_law.nd rfl rfl rfl (by decide) (by decide) (by decide) rfl rfl rfl (pa_cons (pe_call (ok_law_drawn T) hr4 rfl T.g_law_drawn T.F_law_drawn.kp T.b_law_drawn .nil pass0 (pa_cons (pv 2) pa_nil)) (pa_cons (pe_call (ok_law_drawn T) hr4 rfl T.g_law_drawn T.F_law_drawn.kp T.b_law_drawn .nil pass0 (pa_cons (pv 2) pa_nil)) (pa_cons (pe_call (ok_law_drawn T) hr4 rfl T.g_law_drawn T.F_law_drawn.kp T.b_law_drawn .nil pass0 (pa_cons (pv 2) pa_nil)) pa_nil))) (by rfl))
      (pss_cons (ps_if (PW.pt (pw_or (pt_not (pt_val (pe_call (ok_law_sums_right T) hr6 rfl T.g_law_sums_right T.F_law_sums_right.kp T.b_law_sums_right .nil pass0 (pa_cons (pv 4) (pa_cons (pv 5) (pa_cons (pv 6) pa_nil)))))) (pw_or1 (pt_not (pt_val (pe_call (ok_law_order_right T) hr6 rfl T.g_law_order_right T.F_law_order_right.kp T.b_law_order_right .nil pass0 (pa_cons (pv 4) (pa_cons (pv 5) (pa_cons (pv 6) pa_nil))))))))) (pss_one (ps_ret pe_bl)) pss_nil)
      (pss_one (ps_if (pt_not (pt_val (pe_call (ok_law_order_right T) hr6 rfl T.g_law_order_right T.F_law_order_right.kp T.b_law_order_right .nil pass0 (pa_cons (pv 4) (pa_cons (pv 4) (pa_cons (pv 5) pa_nil)))))) (pss_one (ps_ret pe_bl)) pss_nil))))))))
      (pss_one (ps_ret pe_bl))), ?_⟩
    refine ⟨_, rfl, a, _, rfl, Or.inl hS, _, _, rfl, _, _, rfl, _, rfl, ?_⟩
    have h3 := turns3 ((ns.map V.int).length : Int)
    generalize (if (if ((ns.map V.int).length : Int) < 3 then ((ns.map V.int).length : Int) else 3) > 1 then (if ((ns.map V.int).length : Int) < 3 then ((ns.map V.int).length : Int) else 3) else 1) = j at *
    refine ⟨by omega, by omega, for_range (lo := 0) (n := j.toNat) (fun i σ H' => ∃ v0 v1 v2 v3 v4 v5, σ = [some (.ref a), v0, v1, v2, v3, v4, v5] ∧ Same H H') ⟨none, none, none, none, none, none, rfl, Same.refl _⟩ ?_ ?_⟩
    · rintro i σ H' hi ⟨v0, v1, v2, v3, v4, v5, rfl, z⟩
      refine ⟨_, rfl, _, rfl, a, ns, _, rfl, z.seq hS, by omega, by omega, fun p H1 s1 np hP => ?_⟩
      have hHp : H p = none := z.free np
      generalize hkv : V.int (0 + (i : Int)) = kv
      refine ⟨6, rfl, by decide, by decide, for_range (lo := 0) (n := 6) (fun i2 σ Hh => ∃ u0 u1 u2 u3, σ = [some (.ref a), some kv, some (.ref p), u0, u1, u2, u3] ∧ Same H Hh ∧ Pot Hh p (12 * i2)) ⟨_, _, _, _, by rw [← hkv]; rfl, z.trans s1, hP⟩ ?_ ?_⟩
      · rintro i2 σ Hh hi2 ⟨u0, u1, u2, u3, rfl, zz, hPh⟩
        refine ⟨_, rfl, p, 12 * i2, rfl, hPh, by omega, fun q1 x1 H2 n1 b1 f1 P1 sb1 => ?_⟩
        refine ⟨_, rfl, p, 12 * i2 + 4, rfl, P1, by omega, fun q2 x2 H3 n2 b2 f2 P2 sb2 => ?_⟩
        refine ⟨_, rfl, p, 12 * i2 + 4 + 4, rfl, P2, by omega, fun q3 x3 H4 n3 b3 f3 P3 sb3 => ?_⟩
        have m1 := (n1.but sb2 P1.lst).but sb3 P2.lst
        have m2 := n2.but sb3 P2.lst
        have z4 : Same H H4 := but_same ((sb1.trans sb2).trans sb3) zz hHp
        refine ⟨_, _, _, rfl, ?_⟩
        refine stT (σ' := [some (.ref a), some kv, some (.ref p), some (.int (0 + (i2 : Int))), some (.ref x1), some (.ref x2), some (.ref x3)]) rfl ?_
        refine ⟨_, rfl, _, rfl, _, rfl, x1, x2, x3, q1, q2, q3, rfl, m1, m2, n3, b1, b2, b3, fun H5 s5 => ?_⟩
        refine ⟨_, rfl, ?_⟩
        refine iteF' rfl ?_
        refine ⟨_, rfl, _, rfl, _, rfl, x1, x2, x3, q1, q2, q3, rfl, m1.mono s5, m2.mono s5, n3.mono s5, b1, b2, b3, fun H6 s6 => ?_⟩
        refine ⟨_, rfl, ?_⟩
        refine iteF' rfl ?_
        have s56 := s5.trans s6
        refine ⟨_, rfl, _, rfl, _, rfl, x1, x1, x2, q1, q1, q2, rfl, m1.mono s56, m1.mono s56, m2.mono s56, b1, b1, b2, fun H7 s7 => ?_⟩
        refine ⟨_, rfl, ?_⟩
        refine iteF' rfl ?_
        have s57 := s56.trans s7
        exact ⟨_, _, _, _, rfl, z4.trans s57, (P3.same s57).mono (by omega)⟩
      · rintro σ Hh ⟨u0, u1, u2, u3, rfl, zz, hPh⟩
        exact ⟨_, _, _, _, _, _, rfl, zz⟩
    · rintro σ H' ⟨v0, v1, v2, v3, v4, v5, rfl, z⟩
      exact k _
end
theorem all_mk {K : PySem.W.Frag} {h : Heap} {mg : Str → Option Value} (X : K.In h) (G : h.Ns mainGlobals mg)
    {c_Number : Addr}
    {f_is_integer : Addr}
    {oc_is_integer : Value}
    {kV_is_integer : Value}
    {dc_is_integer : Value}
    {pm_is_integer : Value}
    {cd_is_integer : Value}
    {ct_is_integer : Value}
    {od_is_integer : Option Addr}
    {an_is_integer : Option Addr}
    {osl_is_integer : Array (Option Value)}
    {f_shared_divisor : Addr}
    {oc_shared_divisor : Value}
    {kV_shared_divisor : Value}
    {dc_shared_divisor : Value}
    {pm_shared_divisor : Value}
    {cd_shared_divisor : Value}
    {ct_shared_divisor : Value}
    {od_shared_divisor : Option Addr}
    {an_shared_divisor : Option Addr}
    {osl_shared_divisor : Array (Option Value)}
    {f_Number_init : Addr}
    {oc_Number_init : Value}
    {kV_Number_init : Value}
    {dc_Number_init : Value}
    {pm_Number_init : Value}
    {cd_Number_init : Value}
    {ct_Number_init : Value}
    {od_Number_init : Option Addr}
    {an_Number_init : Option Addr}
    {osl_Number_init : Array (Option Value)}
    {T_Number_init : Addr}
    {t_Number_init_0 : Tok}
    {oT_Number_init : Value}
    {dT_Number_init : Option Addr}
    {nT_Number_init : Nat}
    {sT_Number_init : Array (Option Value)}
    {f_Number_top : Addr}
    {p_Number_top : Addr}
    {r_Number_top : List Value}
    {oc_Number_top : Value}
    {kV_Number_top : Value}
    {dc_Number_top : Value}
    {pm_Number_top : Value}
    {cd_Number_top : Value}
    {ct_Number_top : Value}
    {od_Number_top : Option Addr}
    {an_Number_top : Option Addr}
    {osl_Number_top : Array (Option Value)}
    {f_Number_bottom : Addr}
    {p_Number_bottom : Addr}
    {r_Number_bottom : List Value}
    {oc_Number_bottom : Value}
    {kV_Number_bottom : Value}
    {dc_Number_bottom : Value}
    {pm_Number_bottom : Value}
    {cd_Number_bottom : Value}
    {ct_Number_bottom : Value}
    {od_Number_bottom : Option Addr}
    {an_Number_bottom : Option Addr}
    {osl_Number_bottom : Array (Option Value)}
    {f_Number_eq : Addr}
    {oc_Number_eq : Value}
    {kV_Number_eq : Value}
    {dc_Number_eq : Value}
    {pm_Number_eq : Value}
    {cd_Number_eq : Value}
    {ct_Number_eq : Value}
    {od_Number_eq : Option Addr}
    {an_Number_eq : Option Addr}
    {osl_Number_eq : Array (Option Value)}
    {f_Number_is_less : Addr}
    {oc_Number_is_less : Value}
    {kV_Number_is_less : Value}
    {dc_Number_is_less : Value}
    {pm_Number_is_less : Value}
    {cd_Number_is_less : Value}
    {ct_Number_is_less : Value}
    {od_Number_is_less : Option Addr}
    {an_Number_is_less : Option Addr}
    {osl_Number_is_less : Array (Option Value)}
    {f_Number_add : Addr}
    {oc_Number_add : Value}
    {kV_Number_add : Value}
    {dc_Number_add : Value}
    {pm_Number_add : Value}
    {cd_Number_add : Value}
    {ct_Number_add : Value}
    {od_Number_add : Option Addr}
    {an_Number_add : Option Addr}
    {osl_Number_add : Array (Option Value)}
    {f_Number_sub : Addr}
    {oc_Number_sub : Value}
    {kV_Number_sub : Value}
    {dc_Number_sub : Value}
    {pm_Number_sub : Value}
    {cd_Number_sub : Value}
    {ct_Number_sub : Value}
    {od_Number_sub : Option Addr}
    {an_Number_sub : Option Addr}
    {osl_Number_sub : Array (Option Value)}
    {f_Number_mul : Addr}
    {oc_Number_mul : Value}
    {kV_Number_mul : Value}
    {dc_Number_mul : Value}
    {pm_Number_mul : Value}
    {cd_Number_mul : Value}
    {ct_Number_mul : Value}
    {od_Number_mul : Option Addr}
    {an_Number_mul : Option Addr}
    {osl_Number_mul : Array (Option Value)}
    {f_Number_neg : Addr}
    {oc_Number_neg : Value}
    {kV_Number_neg : Value}
    {dc_Number_neg : Value}
    {pm_Number_neg : Value}
    {cd_Number_neg : Value}
    {ct_Number_neg : Value}
    {od_Number_neg : Option Addr}
    {an_Number_neg : Option Addr}
    {osl_Number_neg : Array (Option Value)}
    {f_Number_abs : Addr}
    {oc_Number_abs : Value}
    {kV_Number_abs : Value}
    {dc_Number_abs : Value}
    {pm_Number_abs : Value}
    {cd_Number_abs : Value}
    {ct_Number_abs : Value}
    {od_Number_abs : Option Addr}
    {an_Number_abs : Option Addr}
    {osl_Number_abs : Array (Option Value)}
    {f_Number_bool : Addr}
    {oc_Number_bool : Value}
    {kV_Number_bool : Value}
    {dc_Number_bool : Value}
    {pm_Number_bool : Value}
    {cd_Number_bool : Value}
    {ct_Number_bool : Value}
    {od_Number_bool : Option Addr}
    {an_Number_bool : Option Addr}
    {osl_Number_bool : Array (Option Value)}
    {f_law_pot : Addr}
    {oc_law_pot : Value}
    {kV_law_pot : Value}
    {dc_law_pot : Value}
    {pm_law_pot : Value}
    {cd_law_pot : Value}
    {ct_law_pot : Value}
    {od_law_pot : Option Addr}
    {an_law_pot : Option Addr}
    {osl_law_pot : Array (Option Value)}
    {f_law_take : Addr}
    {oc_law_take : Value}
    {kV_law_take : Value}
    {dc_law_take : Value}
    {pm_law_take : Value}
    {cd_law_take : Value}
    {ct_law_take : Value}
    {od_law_take : Option Addr}
    {an_law_take : Option Addr}
    {osl_law_take : Array (Option Value)}
    {f_law_of : Addr}
    {oc_law_of : Value}
    {kV_law_of : Value}
    {dc_law_of : Value}
    {pm_law_of : Value}
    {cd_law_of : Value}
    {ct_law_of : Value}
    {od_law_of : Option Addr}
    {an_law_of : Option Addr}
    {osl_law_of : Array (Option Value)}
    {f_law_drawn : Addr}
    {oc_law_drawn : Value}
    {kV_law_drawn : Value}
    {dc_law_drawn : Value}
    {pm_law_drawn : Value}
    {cd_law_drawn : Value}
    {ct_law_drawn : Value}
    {od_law_drawn : Option Addr}
    {an_law_drawn : Option Addr}
    {osl_law_drawn : Array (Option Value)}
    {f_law_sum : Addr}
    {oc_law_sum : Value}
    {kV_law_sum : Value}
    {dc_law_sum : Value}
    {pm_law_sum : Value}
    {cd_law_sum : Value}
    {ct_law_sum : Value}
    {od_law_sum : Option Addr}
    {an_law_sum : Option Addr}
    {osl_law_sum : Array (Option Value)}
    {f_law_less : Addr}
    {oc_law_less : Value}
    {kV_law_less : Value}
    {dc_law_less : Value}
    {pm_law_less : Value}
    {cd_law_less : Value}
    {ct_law_less : Value}
    {od_law_less : Option Addr}
    {an_law_less : Option Addr}
    {osl_law_less : Array (Option Value)}
    {f_law_times : Addr}
    {oc_law_times : Value}
    {kV_law_times : Value}
    {dc_law_times : Value}
    {pm_law_times : Value}
    {cd_law_times : Value}
    {ct_law_times : Value}
    {od_law_times : Option Addr}
    {an_law_times : Option Addr}
    {osl_law_times : Array (Option Value)}
    {f_law_turned : Addr}
    {oc_law_turned : Value}
    {kV_law_turned : Value}
    {dc_law_turned : Value}
    {pm_law_turned : Value}
    {cd_law_turned : Value}
    {ct_law_turned : Value}
    {od_law_turned : Option Addr}
    {an_law_turned : Option Addr}
    {osl_law_turned : Array (Option Value)}
    {f_law_are_same : Addr}
    {oc_law_are_same : Value}
    {kV_law_are_same : Value}
    {dc_law_are_same : Value}
    {pm_law_are_same : Value}
    {cd_law_are_same : Value}
    {ct_law_are_same : Value}
    {od_law_are_same : Option Addr}
    {an_law_are_same : Option Addr}
    {osl_law_are_same : Array (Option Value)}
    {f_law_sums_right : Addr}
    {oc_law_sums_right : Value}
    {kV_law_sums_right : Value}
    {dc_law_sums_right : Value}
    {pm_law_sums_right : Value}
    {cd_law_sums_right : Value}
    {ct_law_sums_right : Value}
    {od_law_sums_right : Option Addr}
    {an_law_sums_right : Option Addr}
    {osl_law_sums_right : Array (Option Value)}
    {f_law_order_right : Addr}
    {oc_law_order_right : Value}
    {kV_law_order_right : Value}
    {dc_law_order_right : Value}
    {pm_law_order_right : Value}
    {cd_law_order_right : Value}
    {ct_law_order_right : Value}
    {od_law_order_right : Option Addr}
    {an_law_order_right : Option Addr}
    {osl_law_order_right : Array (Option Value)}
    {f_law : Addr}
    {oc_law : Value}
    {kV_law : Value}
    {dc_law : Value}
    {pm_law : Value}
    {cd_law : Value}
    {ct_law : Value}
    {od_law : Option Addr}
    {an_law : Option Addr}
    {osl_law : Array (Option Value)}
    (a_Number : PySem.W.nsIn K mainGlobals "Number" = some (some (.ref c_Number)))
    (pg_Number : PySem.W.plainGet K c_Number Str.empty = true)
    (hd_Number : PySem.W.hasDictIn K c_Number = true)
    (po_Number : PySem.W.plainOver K c_Number = true)
    (sa_Number : PySem.W.findIn K (.ref c_Number) "__setattr__" = some (some (.builtin "object.__setattr__")))
    (mk_Number : PySem.W.makesIn K c_Number = true)
    (kc_Number : PySem.W.keepIn K (.ref c_Number) = true)
    (sf_Number : PySem.W.selfFirst K c_Number = true)
    (ca_Number : PySem.W.findIn K (.ref c_Number) "__class__" = some (some (.builtin "object.__class__")))
    (cm_Number : PySem.W.mroIn K c_Number (.type "object") = some true)
    (n_Number_own_top : PySem.W.findIn K (.ref c_Number) "own_top" = some none)
    (n_Number_own_bottom : PySem.W.findIn K (.ref c_Number) "own_bottom" = some none)
    (cn : PySem.W.specialIn K (.builtin "object.__class__") "__get__" = some (some (.builtin "getset_descriptor.__get__")))
    (ct : PySem.W.takesIn K (.builtin "object.__class__") = some true)
    (a_is_integer : PySem.W.nsIn K mainGlobals "is_integer" = some (some (.ref f_is_integer)))
    (l_is_integer : K.lookup f_is_integer = some ⟨oc_is_integer, od_is_integer, .func (PySem.W.fnOf "is_integer" "is_integer" (defArgs s_is_integer) (defBody s_is_integer) (defScope s_is_integer) .none kV_is_integer dc_is_integer pm_is_integer an_is_integer cd_is_integer ct_is_integer), osl_is_integer⟩)
    (hc_is_integer : PySem.W.codeIn K cd_is_integer "is_integer" = true)
    (k_is_integer : PySem.W.keepIn K (.ref f_is_integer) = true)
    (a_shared_divisor : PySem.W.nsIn K mainGlobals "shared_divisor" = some (some (.ref f_shared_divisor)))
    (l_shared_divisor : K.lookup f_shared_divisor = some ⟨oc_shared_divisor, od_shared_divisor, .func (PySem.W.fnOf "shared_divisor" "shared_divisor" (defArgs s_shared_divisor) (defBody s_shared_divisor) (defScope s_shared_divisor) .none kV_shared_divisor dc_shared_divisor pm_shared_divisor an_shared_divisor cd_shared_divisor ct_shared_divisor), osl_shared_divisor⟩)
    (hc_shared_divisor : PySem.W.codeIn K cd_shared_divisor "shared_divisor" = true)
    (k_shared_divisor : PySem.W.keepIn K (.ref f_shared_divisor) = true)
    (a_Number_init : PySem.W.findIn K (.ref c_Number) "__init__" = some (some (.ref f_Number_init)))
    (i_Number_init : PySem.W.isFn K (.ref f_Number_init) = true)
    (l_Number_init : K.lookup f_Number_init = some ⟨oc_Number_init, od_Number_init, .func (PySem.W.fnOf "__init__" "Number.__init__" (defArgs s_Number_init) (defBody s_Number_init) (defScope s_Number_init) (.ref T_Number_init) kV_Number_init dc_Number_init pm_Number_init an_Number_init cd_Number_init ct_Number_init), osl_Number_init⟩)
    (hc_Number_init : PySem.W.codeIn K cd_Number_init "Number.__init__" = true)
    (k_Number_init : PySem.W.keepIn K (.ref f_Number_init) = true)
    (lT_Number_init : K.lookup T_Number_init = some ⟨oT_Number_init, dT_Number_init, .seq #[.int 1 t_Number_init_0] nT_Number_init, sT_Number_init⟩)
    (at_Number_top : PySem.W.findIn K (.ref c_Number) "top" = some (some (.ref p_Number_top)))
    (gt_Number_top : PySem.W.specialIn K (.ref p_Number_top) "__get__" = some (some (.builtin "property.__get__")))
    (tk_Number_top : PySem.W.takesIn K (.ref p_Number_top) = some true)
    (rc_Number_top : PySem.W.recIn K p_Number_top "property" = some (.ref f_Number_top :: r_Number_top))
    (l_Number_top : K.lookup f_Number_top = some ⟨oc_Number_top, od_Number_top, .func (PySem.W.fnOf "top" "Number.top" (defArgs s_Number_top) (defBody s_Number_top) (defScope s_Number_top) .none kV_Number_top dc_Number_top pm_Number_top an_Number_top cd_Number_top ct_Number_top), osl_Number_top⟩)
    (hc_Number_top : PySem.W.codeIn K cd_Number_top "Number.top" = true)
    (k_Number_top : PySem.W.keepIn K (.ref f_Number_top) = true)
    (at_Number_bottom : PySem.W.findIn K (.ref c_Number) "bottom" = some (some (.ref p_Number_bottom)))
    (gt_Number_bottom : PySem.W.specialIn K (.ref p_Number_bottom) "__get__" = some (some (.builtin "property.__get__")))
    (tk_Number_bottom : PySem.W.takesIn K (.ref p_Number_bottom) = some true)
    (rc_Number_bottom : PySem.W.recIn K p_Number_bottom "property" = some (.ref f_Number_bottom :: r_Number_bottom))
    (l_Number_bottom : K.lookup f_Number_bottom = some ⟨oc_Number_bottom, od_Number_bottom, .func (PySem.W.fnOf "bottom" "Number.bottom" (defArgs s_Number_bottom) (defBody s_Number_bottom) (defScope s_Number_bottom) .none kV_Number_bottom dc_Number_bottom pm_Number_bottom an_Number_bottom cd_Number_bottom ct_Number_bottom), osl_Number_bottom⟩)
    (hc_Number_bottom : PySem.W.codeIn K cd_Number_bottom "Number.bottom" = true)
    (k_Number_bottom : PySem.W.keepIn K (.ref f_Number_bottom) = true)
    (a_Number_eq : PySem.W.findIn K (.ref c_Number) "__eq__" = some (some (.ref f_Number_eq)))
    (i_Number_eq : PySem.W.isFn K (.ref f_Number_eq) = true)
    (l_Number_eq : K.lookup f_Number_eq = some ⟨oc_Number_eq, od_Number_eq, .func (PySem.W.fnOf "__eq__" "Number.__eq__" (defArgs s_Number_eq) (defBody s_Number_eq) (defScope s_Number_eq) .none kV_Number_eq dc_Number_eq pm_Number_eq an_Number_eq cd_Number_eq ct_Number_eq), osl_Number_eq⟩)
    (hc_Number_eq : PySem.W.codeIn K cd_Number_eq "Number.__eq__" = true)
    (k_Number_eq : PySem.W.keepIn K (.ref f_Number_eq) = true)
    (a_Number_is_less : PySem.W.findIn K (.ref c_Number) "is_less" = some (some (.ref f_Number_is_less)))
    (i_Number_is_less : PySem.W.isFn K (.ref f_Number_is_less) = true)
    (l_Number_is_less : K.lookup f_Number_is_less = some ⟨oc_Number_is_less, od_Number_is_less, .func (PySem.W.fnOf "is_less" "Number.is_less" (defArgs s_Number_is_less) (defBody s_Number_is_less) (defScope s_Number_is_less) .none kV_Number_is_less dc_Number_is_less pm_Number_is_less an_Number_is_less cd_Number_is_less ct_Number_is_less), osl_Number_is_less⟩)
    (hc_Number_is_less : PySem.W.codeIn K cd_Number_is_less "Number.is_less" = true)
    (k_Number_is_less : PySem.W.keepIn K (.ref f_Number_is_less) = true)
    (a_Number_add : PySem.W.findIn K (.ref c_Number) "__add__" = some (some (.ref f_Number_add)))
    (i_Number_add : PySem.W.isFn K (.ref f_Number_add) = true)
    (l_Number_add : K.lookup f_Number_add = some ⟨oc_Number_add, od_Number_add, .func (PySem.W.fnOf "__add__" "Number.__add__" (defArgs s_Number_add) (defBody s_Number_add) (defScope s_Number_add) .none kV_Number_add dc_Number_add pm_Number_add an_Number_add cd_Number_add ct_Number_add), osl_Number_add⟩)
    (hc_Number_add : PySem.W.codeIn K cd_Number_add "Number.__add__" = true)
    (k_Number_add : PySem.W.keepIn K (.ref f_Number_add) = true)
    (a_Number_sub : PySem.W.findIn K (.ref c_Number) "__sub__" = some (some (.ref f_Number_sub)))
    (i_Number_sub : PySem.W.isFn K (.ref f_Number_sub) = true)
    (l_Number_sub : K.lookup f_Number_sub = some ⟨oc_Number_sub, od_Number_sub, .func (PySem.W.fnOf "__sub__" "Number.__sub__" (defArgs s_Number_sub) (defBody s_Number_sub) (defScope s_Number_sub) .none kV_Number_sub dc_Number_sub pm_Number_sub an_Number_sub cd_Number_sub ct_Number_sub), osl_Number_sub⟩)
    (hc_Number_sub : PySem.W.codeIn K cd_Number_sub "Number.__sub__" = true)
    (k_Number_sub : PySem.W.keepIn K (.ref f_Number_sub) = true)
    (a_Number_mul : PySem.W.findIn K (.ref c_Number) "__mul__" = some (some (.ref f_Number_mul)))
    (i_Number_mul : PySem.W.isFn K (.ref f_Number_mul) = true)
    (l_Number_mul : K.lookup f_Number_mul = some ⟨oc_Number_mul, od_Number_mul, .func (PySem.W.fnOf "__mul__" "Number.__mul__" (defArgs s_Number_mul) (defBody s_Number_mul) (defScope s_Number_mul) .none kV_Number_mul dc_Number_mul pm_Number_mul an_Number_mul cd_Number_mul ct_Number_mul), osl_Number_mul⟩)
    (hc_Number_mul : PySem.W.codeIn K cd_Number_mul "Number.__mul__" = true)
    (k_Number_mul : PySem.W.keepIn K (.ref f_Number_mul) = true)
    (a_Number_neg : PySem.W.findIn K (.ref c_Number) "__neg__" = some (some (.ref f_Number_neg)))
    (i_Number_neg : PySem.W.isFn K (.ref f_Number_neg) = true)
    (l_Number_neg : K.lookup f_Number_neg = some ⟨oc_Number_neg, od_Number_neg, .func (PySem.W.fnOf "__neg__" "Number.__neg__" (defArgs s_Number_neg) (defBody s_Number_neg) (defScope s_Number_neg) .none kV_Number_neg dc_Number_neg pm_Number_neg an_Number_neg cd_Number_neg ct_Number_neg), osl_Number_neg⟩)
    (hc_Number_neg : PySem.W.codeIn K cd_Number_neg "Number.__neg__" = true)
    (k_Number_neg : PySem.W.keepIn K (.ref f_Number_neg) = true)
    (a_Number_abs : PySem.W.findIn K (.ref c_Number) "__abs__" = some (some (.ref f_Number_abs)))
    (i_Number_abs : PySem.W.isFn K (.ref f_Number_abs) = true)
    (l_Number_abs : K.lookup f_Number_abs = some ⟨oc_Number_abs, od_Number_abs, .func (PySem.W.fnOf "__abs__" "Number.__abs__" (defArgs s_Number_abs) (defBody s_Number_abs) (defScope s_Number_abs) .none kV_Number_abs dc_Number_abs pm_Number_abs an_Number_abs cd_Number_abs ct_Number_abs), osl_Number_abs⟩)
    (hc_Number_abs : PySem.W.codeIn K cd_Number_abs "Number.__abs__" = true)
    (k_Number_abs : PySem.W.keepIn K (.ref f_Number_abs) = true)
    (a_Number_bool : PySem.W.findIn K (.ref c_Number) "__bool__" = some (some (.ref f_Number_bool)))
    (i_Number_bool : PySem.W.isFn K (.ref f_Number_bool) = true)
    (l_Number_bool : K.lookup f_Number_bool = some ⟨oc_Number_bool, od_Number_bool, .func (PySem.W.fnOf "__bool__" "Number.__bool__" (defArgs s_Number_bool) (defBody s_Number_bool) (defScope s_Number_bool) .none kV_Number_bool dc_Number_bool pm_Number_bool an_Number_bool cd_Number_bool ct_Number_bool), osl_Number_bool⟩)
    (hc_Number_bool : PySem.W.codeIn K cd_Number_bool "Number.__bool__" = true)
    (k_Number_bool : PySem.W.keepIn K (.ref f_Number_bool) = true)
    (a_law_pot : PySem.W.nsIn K mainGlobals "_law_pot" = some (some (.ref f_law_pot)))
    (l_law_pot : K.lookup f_law_pot = some ⟨oc_law_pot, od_law_pot, .func (PySem.W.fnOf "_law_pot" "_law_pot" (defArgs s_law_pot) (defBody s_law_pot) (defScope s_law_pot) .none kV_law_pot dc_law_pot pm_law_pot an_law_pot cd_law_pot ct_law_pot), osl_law_pot⟩)
    (hc_law_pot : PySem.W.codeIn K cd_law_pot "_law_pot" = true)
    (k_law_pot : PySem.W.keepIn K (.ref f_law_pot) = true)
    (a_law_take : PySem.W.nsIn K mainGlobals "_law_take" = some (some (.ref f_law_take)))
    (l_law_take : K.lookup f_law_take = some ⟨oc_law_take, od_law_take, .func (PySem.W.fnOf "_law_take" "_law_take" (defArgs s_law_take) (defBody s_law_take) (defScope s_law_take) .none kV_law_take dc_law_take pm_law_take an_law_take cd_law_take ct_law_take), osl_law_take⟩)
    (hc_law_take : PySem.W.codeIn K cd_law_take "_law_take" = true)
    (k_law_take : PySem.W.keepIn K (.ref f_law_take) = true)
    (a_law_of : PySem.W.nsIn K mainGlobals "_law_of" = some (some (.ref f_law_of)))
    (l_law_of : K.lookup f_law_of = some ⟨oc_law_of, od_law_of, .func (PySem.W.fnOf "_law_of" "_law_of" (defArgs s_law_of) (defBody s_law_of) (defScope s_law_of) .none kV_law_of dc_law_of pm_law_of an_law_of cd_law_of ct_law_of), osl_law_of⟩)
    (hc_law_of : PySem.W.codeIn K cd_law_of "_law_of" = true)
    (k_law_of : PySem.W.keepIn K (.ref f_law_of) = true)
    (a_law_drawn : PySem.W.nsIn K mainGlobals "_law_drawn" = some (some (.ref f_law_drawn)))
    (l_law_drawn : K.lookup f_law_drawn = some ⟨oc_law_drawn, od_law_drawn, .func (PySem.W.fnOf "_law_drawn" "_law_drawn" (defArgs s_law_drawn) (defBody s_law_drawn) (defScope s_law_drawn) .none kV_law_drawn dc_law_drawn pm_law_drawn an_law_drawn cd_law_drawn ct_law_drawn), osl_law_drawn⟩)
    (hc_law_drawn : PySem.W.codeIn K cd_law_drawn "_law_drawn" = true)
    (k_law_drawn : PySem.W.keepIn K (.ref f_law_drawn) = true)
    (a_law_sum : PySem.W.nsIn K mainGlobals "_law_sum" = some (some (.ref f_law_sum)))
    (l_law_sum : K.lookup f_law_sum = some ⟨oc_law_sum, od_law_sum, .func (PySem.W.fnOf "_law_sum" "_law_sum" (defArgs s_law_sum) (defBody s_law_sum) (defScope s_law_sum) .none kV_law_sum dc_law_sum pm_law_sum an_law_sum cd_law_sum ct_law_sum), osl_law_sum⟩)
    (hc_law_sum : PySem.W.codeIn K cd_law_sum "_law_sum" = true)
    (k_law_sum : PySem.W.keepIn K (.ref f_law_sum) = true)
    (a_law_less : PySem.W.nsIn K mainGlobals "_law_less" = some (some (.ref f_law_less)))
    (l_law_less : K.lookup f_law_less = some ⟨oc_law_less, od_law_less, .func (PySem.W.fnOf "_law_less" "_law_less" (defArgs s_law_less) (defBody s_law_less) (defScope s_law_less) .none kV_law_less dc_law_less pm_law_less an_law_less cd_law_less ct_law_less), osl_law_less⟩)
    (hc_law_less : PySem.W.codeIn K cd_law_less "_law_less" = true)
    (k_law_less : PySem.W.keepIn K (.ref f_law_less) = true)
    (a_law_times : PySem.W.nsIn K mainGlobals "_law_times" = some (some (.ref f_law_times)))
    (l_law_times : K.lookup f_law_times = some ⟨oc_law_times, od_law_times, .func (PySem.W.fnOf "_law_times" "_law_times" (defArgs s_law_times) (defBody s_law_times) (defScope s_law_times) .none kV_law_times dc_law_times pm_law_times an_law_times cd_law_times ct_law_times), osl_law_times⟩)
    (hc_law_times : PySem.W.codeIn K cd_law_times "_law_times" = true)
    (k_law_times : PySem.W.keepIn K (.ref f_law_times) = true)
    (a_law_turned : PySem.W.nsIn K mainGlobals "_law_turned" = some (some (.ref f_law_turned)))
    (l_law_turned : K.lookup f_law_turned = some ⟨oc_law_turned, od_law_turned, .func (PySem.W.fnOf "_law_turned" "_law_turned" (defArgs s_law_turned) (defBody s_law_turned) (defScope s_law_turned) .none kV_law_turned dc_law_turned pm_law_turned an_law_turned cd_law_turned ct_law_turned), osl_law_turned⟩)
    (hc_law_turned : PySem.W.codeIn K cd_law_turned "_law_turned" = true)
    (k_law_turned : PySem.W.keepIn K (.ref f_law_turned) = true)
    (a_law_are_same : PySem.W.nsIn K mainGlobals "_law_are_same" = some (some (.ref f_law_are_same)))
    (l_law_are_same : K.lookup f_law_are_same = some ⟨oc_law_are_same, od_law_are_same, .func (PySem.W.fnOf "_law_are_same" "_law_are_same" (defArgs s_law_are_same) (defBody s_law_are_same) (defScope s_law_are_same) .none kV_law_are_same dc_law_are_same pm_law_are_same an_law_are_same cd_law_are_same ct_law_are_same), osl_law_are_same⟩)
    (hc_law_are_same : PySem.W.codeIn K cd_law_are_same "_law_are_same" = true)
    (k_law_are_same : PySem.W.keepIn K (.ref f_law_are_same) = true)
    (a_law_sums_right : PySem.W.nsIn K mainGlobals "_law_sums_right" = some (some (.ref f_law_sums_right)))
    (l_law_sums_right : K.lookup f_law_sums_right = some ⟨oc_law_sums_right, od_law_sums_right, .func (PySem.W.fnOf "_law_sums_right" "_law_sums_right" (defArgs s_law_sums_right) (defBody s_law_sums_right) (defScope s_law_sums_right) .none kV_law_sums_right dc_law_sums_right pm_law_sums_right an_law_sums_right cd_law_sums_right ct_law_sums_right), osl_law_sums_right⟩)
    (hc_law_sums_right : PySem.W.codeIn K cd_law_sums_right "_law_sums_right" = true)
    (k_law_sums_right : PySem.W.keepIn K (.ref f_law_sums_right) = true)
    (a_law_order_right : PySem.W.nsIn K mainGlobals "_law_order_right" = some (some (.ref f_law_order_right)))
    (l_law_order_right : K.lookup f_law_order_right = some ⟨oc_law_order_right, od_law_order_right, .func (PySem.W.fnOf "_law_order_right" "_law_order_right" (defArgs s_law_order_right) (defBody s_law_order_right) (defScope s_law_order_right) .none kV_law_order_right dc_law_order_right pm_law_order_right an_law_order_right cd_law_order_right ct_law_order_right), osl_law_order_right⟩)
    (hc_law_order_right : PySem.W.codeIn K cd_law_order_right "_law_order_right" = true)
    (k_law_order_right : PySem.W.keepIn K (.ref f_law_order_right) = true)
    (a_law : PySem.W.nsIn K mainGlobals "law" = some (some (.ref f_law)))
    (l_law : K.lookup f_law = some ⟨oc_law, od_law, .func (PySem.W.fnOf "law" "law" (defArgs s_law) (defBody s_law) (defScope s_law) .none kV_law dc_law pm_law an_law cd_law ct_law), osl_law⟩)
    (hc_law : PySem.W.codeIn K cd_law "law" = true)
    (k_law : PySem.W.keepIn K (.ref f_law) = true)
    (z_isinstance : PySem.W.nsIn K mainGlobals "isinstance" = some none)
    (z_int : PySem.W.nsIn K mainGlobals "int" = some none)
    (z_bool : PySem.W.nsIn K mainGlobals "bool" = some none)
    (z_abs : PySem.W.nsIn K mainGlobals "abs" = some none)
    (z_len : PySem.W.nsIn K mainGlobals "len" = some none)
    (z_max : PySem.W.nsIn K mainGlobals "max" = some none)
    (z_min : PySem.W.nsIn K mainGlobals "min" = some none)
    (z_range : PySem.W.nsIn K mainGlobals "range" = some none)
    (z_all : PySem.W.nsIn K mainGlobals "all" = some none)
    (z_set : PySem.W.nsIn K mainGlobals "set" = some none)
    (z_sorted : PySem.W.nsIn K mainGlobals "sorted" = some none)
    (z_repr : PySem.W.nsIn K mainGlobals "repr" = some none)
    (kit_NumNum : PySem.W.kitOne K (.ref c_Number) (.ref c_Number) = some true)
    (ne_Number : PySem.W.findIn K (.ref c_Number) "__ne__" = some (some (.builtin "object.__ne__")))
    : ∃ A : Ad, A.f_law = f_law ∧ Txt K mg A :=
  ⟨⟨c_Number, f_is_integer, (PySem.W.fnOf "is_integer" "is_integer" (defArgs s_is_integer) (defBody s_is_integer) (defScope s_is_integer) .none kV_is_integer dc_is_integer pm_is_integer an_is_integer cd_is_integer ct_is_integer), f_shared_divisor, (PySem.W.fnOf "shared_divisor" "shared_divisor" (defArgs s_shared_divisor) (defBody s_shared_divisor) (defScope s_shared_divisor) .none kV_shared_divisor dc_shared_divisor pm_shared_divisor an_shared_divisor cd_shared_divisor ct_shared_divisor), f_Number_init, (PySem.W.fnOf "__init__" "Number.__init__" (defArgs s_Number_init) (defBody s_Number_init) (defScope s_Number_init) (.ref T_Number_init) kV_Number_init dc_Number_init pm_Number_init an_Number_init cd_Number_init ct_Number_init), f_Number_top, (PySem.W.fnOf "top" "Number.top" (defArgs s_Number_top) (defBody s_Number_top) (defScope s_Number_top) .none kV_Number_top dc_Number_top pm_Number_top an_Number_top cd_Number_top ct_Number_top), p_Number_top, f_Number_bottom, (PySem.W.fnOf "bottom" "Number.bottom" (defArgs s_Number_bottom) (defBody s_Number_bottom) (defScope s_Number_bottom) .none kV_Number_bottom dc_Number_bottom pm_Number_bottom an_Number_bottom cd_Number_bottom ct_Number_bottom), p_Number_bottom, f_Number_eq, (PySem.W.fnOf "__eq__" "Number.__eq__" (defArgs s_Number_eq) (defBody s_Number_eq) (defScope s_Number_eq) .none kV_Number_eq dc_Number_eq pm_Number_eq an_Number_eq cd_Number_eq ct_Number_eq), f_Number_is_less, (PySem.W.fnOf "is_less" "Number.is_less" (defArgs s_Number_is_less) (defBody s_Number_is_less) (defScope s_Number_is_less) .none kV_Number_is_less dc_Number_is_less pm_Number_is_less an_Number_is_less cd_Number_is_less ct_Number_is_less), f_Number_add, (PySem.W.fnOf "__add__" "Number.__add__" (defArgs s_Number_add) (defBody s_Number_add) (defScope s_Number_add) .none kV_Number_add dc_Number_add pm_Number_add an_Number_add cd_Number_add ct_Number_add), f_Number_sub, (PySem.W.fnOf "__sub__" "Number.__sub__" (defArgs s_Number_sub) (defBody s_Number_sub) (defScope s_Number_sub) .none kV_Number_sub dc_Number_sub pm_Number_sub an_Number_sub cd_Number_sub ct_Number_sub), f_Number_mul, (PySem.W.fnOf "__mul__" "Number.__mul__" (defArgs s_Number_mul) (defBody s_Number_mul) (defScope s_Number_mul) .none kV_Number_mul dc_Number_mul pm_Number_mul an_Number_mul cd_Number_mul ct_Number_mul), f_Number_neg, (PySem.W.fnOf "__neg__" "Number.__neg__" (defArgs s_Number_neg) (defBody s_Number_neg) (defScope s_Number_neg) .none kV_Number_neg dc_Number_neg pm_Number_neg an_Number_neg cd_Number_neg ct_Number_neg), f_Number_abs, (PySem.W.fnOf "__abs__" "Number.__abs__" (defArgs s_Number_abs) (defBody s_Number_abs) (defScope s_Number_abs) .none kV_Number_abs dc_Number_abs pm_Number_abs an_Number_abs cd_Number_abs ct_Number_abs), f_Number_bool, (PySem.W.fnOf "__bool__" "Number.__bool__" (defArgs s_Number_bool) (defBody s_Number_bool) (defScope s_Number_bool) .none kV_Number_bool dc_Number_bool pm_Number_bool an_Number_bool cd_Number_bool ct_Number_bool), f_law_pot, (PySem.W.fnOf "_law_pot" "_law_pot" (defArgs s_law_pot) (defBody s_law_pot) (defScope s_law_pot) .none kV_law_pot dc_law_pot pm_law_pot an_law_pot cd_law_pot ct_law_pot), f_law_take, (PySem.W.fnOf "_law_take" "_law_take" (defArgs s_law_take) (defBody s_law_take) (defScope s_law_take) .none kV_law_take dc_law_take pm_law_take an_law_take cd_law_take ct_law_take), f_law_of, (PySem.W.fnOf "_law_of" "_law_of" (defArgs s_law_of) (defBody s_law_of) (defScope s_law_of) .none kV_law_of dc_law_of pm_law_of an_law_of cd_law_of ct_law_of), f_law_drawn, (PySem.W.fnOf "_law_drawn" "_law_drawn" (defArgs s_law_drawn) (defBody s_law_drawn) (defScope s_law_drawn) .none kV_law_drawn dc_law_drawn pm_law_drawn an_law_drawn cd_law_drawn ct_law_drawn), f_law_sum, (PySem.W.fnOf "_law_sum" "_law_sum" (defArgs s_law_sum) (defBody s_law_sum) (defScope s_law_sum) .none kV_law_sum dc_law_sum pm_law_sum an_law_sum cd_law_sum ct_law_sum), f_law_less, (PySem.W.fnOf "_law_less" "_law_less" (defArgs s_law_less) (defBody s_law_less) (defScope s_law_less) .none kV_law_less dc_law_less pm_law_less an_law_less cd_law_less ct_law_less), f_law_times, (PySem.W.fnOf "_law_times" "_law_times" (defArgs s_law_times) (defBody s_law_times) (defScope s_law_times) .none kV_law_times dc_law_times pm_law_times an_law_times cd_law_times ct_law_times), f_law_turned, (PySem.W.fnOf "_law_turned" "_law_turned" (defArgs s_law_turned) (defBody s_law_turned) (defScope s_law_turned) .none kV_law_turned dc_law_turned pm_law_turned an_law_turned cd_law_turned ct_law_turned), f_law_are_same, (PySem.W.fnOf "_law_are_same" "_law_are_same" (defArgs s_law_are_same) (defBody s_law_are_same) (defScope s_law_are_same) .none kV_law_are_same dc_law_are_same pm_law_are_same an_law_are_same cd_law_are_same ct_law_are_same), f_law_sums_right, (PySem.W.fnOf "_law_sums_right" "_law_sums_right" (defArgs s_law_sums_right) (defBody s_law_sums_right) (defScope s_law_sums_right) .none kV_law_sums_right dc_law_sums_right pm_law_sums_right an_law_sums_right cd_law_sums_right ct_law_sums_right), f_law_order_right, (PySem.W.fnOf "_law_order_right" "_law_order_right" (defArgs s_law_order_right) (defBody s_law_order_right) (defScope s_law_order_right) .none kV_law_order_right dc_law_order_right pm_law_order_right an_law_order_right cd_law_order_right ct_law_order_right), f_law, (PySem.W.fnOf "law" "law" (defArgs s_law) (defBody s_law) (defScope s_law) .none kV_law dc_law pm_law an_law cd_law ct_law)⟩, rfl, {
    g_Number := PySem.W.mg_of X G a_Number,
    cl_Number := ⟨pg_Number, hd_Number, po_Number, sa_Number⟩,
    M_Number := ⟨mk_Number, a_Number_init, i_Number_init, kc_Number⟩,
    sf_Number := sf_Number,
    ca_Number := ca_Number,
    cm_Number := cm_Number,
    n_Number_own_top := n_Number_own_top,
    n_Number_own_bottom := n_Number_own_bottom,
    cn := cn,
    ct := ct,
    g_is_integer := PySem.W.mg_of X G a_is_integer,
    F_is_integer := fun_mk (st := s_is_integer) l_is_integer hc_is_integer k_is_integer,
    b_is_integer := (fun_mk (st := s_is_integer) l_is_integer hc_is_integer k_is_integer).binds (ps := ["value"]) fun _ _ _ _ _ _ us hl => match us, hl with | [_], _ => rfl,
    g_shared_divisor := PySem.W.mg_of X G a_shared_divisor,
    F_shared_divisor := fun_mk (st := s_shared_divisor) l_shared_divisor hc_shared_divisor k_shared_divisor,
    b_shared_divisor := (fun_mk (st := s_shared_divisor) l_shared_divisor hc_shared_divisor k_shared_divisor).binds (ps := ["one", "other"]) fun _ _ _ _ _ _ us hl => match us, hl with | [_, _], _ => rfl,
    m_Number_init := ⟨a_Number_init, i_Number_init, k_Number_init⟩,
    F_Number_init := ⟨⟨_, _, _, _, _, _, _, _, _, _, rfl, l_Number_init, hc_Number_init, Or.inr ⟨by simp, _, _, [.int 1 t_Number_init_0], _, rfl, lT_Number_init, rfl, .cons ⟨_, rfl⟩ (.nil)⟩, Or.inl rfl⟩, k_Number_init⟩,
    P_Number_top := ⟨at_Number_top, gt_Number_top, tk_Number_top, ⟨_, rc_Number_top⟩⟩,
    F_Number_top := fun_mk (st := s_Number_top) l_Number_top hc_Number_top k_Number_top,
    b_Number_top := (fun_mk (st := s_Number_top) l_Number_top hc_Number_top k_Number_top).binds (ps := ["self"]) fun _ _ _ _ _ _ us hl => match us, hl with | [_], _ => rfl,
    P_Number_bottom := ⟨at_Number_bottom, gt_Number_bottom, tk_Number_bottom, ⟨_, rc_Number_bottom⟩⟩,
    F_Number_bottom := fun_mk (st := s_Number_bottom) l_Number_bottom hc_Number_bottom k_Number_bottom,
    b_Number_bottom := (fun_mk (st := s_Number_bottom) l_Number_bottom hc_Number_bottom k_Number_bottom).binds (ps := ["self"]) fun _ _ _ _ _ _ us hl => match us, hl with | [_], _ => rfl,
    m_Number_eq := ⟨a_Number_eq, i_Number_eq, k_Number_eq⟩,
    F_Number_eq := fun_mk (st := s_Number_eq) l_Number_eq hc_Number_eq k_Number_eq,
    b_Number_eq := (fun_mk (st := s_Number_eq) l_Number_eq hc_Number_eq k_Number_eq).binds (ps := ["self", "other"]) fun _ _ _ _ _ _ us hl => match us, hl with | [_, _], _ => rfl,
    m_Number_is_less := ⟨a_Number_is_less, i_Number_is_less, k_Number_is_less⟩,
    F_Number_is_less := fun_mk (st := s_Number_is_less) l_Number_is_less hc_Number_is_less k_Number_is_less,
    b_Number_is_less := (fun_mk (st := s_Number_is_less) l_Number_is_less hc_Number_is_less k_Number_is_less).binds (ps := ["self", "other"]) fun _ _ _ _ _ _ us hl => match us, hl with | [_, _], _ => rfl,
    m_Number_add := ⟨a_Number_add, i_Number_add, k_Number_add⟩,
    F_Number_add := fun_mk (st := s_Number_add) l_Number_add hc_Number_add k_Number_add,
    b_Number_add := (fun_mk (st := s_Number_add) l_Number_add hc_Number_add k_Number_add).binds (ps := ["self", "other"]) fun _ _ _ _ _ _ us hl => match us, hl with | [_, _], _ => rfl,
    m_Number_sub := ⟨a_Number_sub, i_Number_sub, k_Number_sub⟩,
    F_Number_sub := fun_mk (st := s_Number_sub) l_Number_sub hc_Number_sub k_Number_sub,
    b_Number_sub := (fun_mk (st := s_Number_sub) l_Number_sub hc_Number_sub k_Number_sub).binds (ps := ["self", "other"]) fun _ _ _ _ _ _ us hl => match us, hl with | [_, _], _ => rfl,
    m_Number_mul := ⟨a_Number_mul, i_Number_mul, k_Number_mul⟩,
    F_Number_mul := fun_mk (st := s_Number_mul) l_Number_mul hc_Number_mul k_Number_mul,
    b_Number_mul := (fun_mk (st := s_Number_mul) l_Number_mul hc_Number_mul k_Number_mul).binds (ps := ["self", "other"]) fun _ _ _ _ _ _ us hl => match us, hl with | [_, _], _ => rfl,
    m_Number_neg := ⟨a_Number_neg, i_Number_neg, k_Number_neg⟩,
    F_Number_neg := fun_mk (st := s_Number_neg) l_Number_neg hc_Number_neg k_Number_neg,
    b_Number_neg := (fun_mk (st := s_Number_neg) l_Number_neg hc_Number_neg k_Number_neg).binds (ps := ["self"]) fun _ _ _ _ _ _ us hl => match us, hl with | [_], _ => rfl,
    m_Number_abs := ⟨a_Number_abs, i_Number_abs, k_Number_abs⟩,
    F_Number_abs := fun_mk (st := s_Number_abs) l_Number_abs hc_Number_abs k_Number_abs,
    b_Number_abs := (fun_mk (st := s_Number_abs) l_Number_abs hc_Number_abs k_Number_abs).binds (ps := ["self"]) fun _ _ _ _ _ _ us hl => match us, hl with | [_], _ => rfl,
    m_Number_bool := ⟨a_Number_bool, i_Number_bool, k_Number_bool⟩,
    F_Number_bool := fun_mk (st := s_Number_bool) l_Number_bool hc_Number_bool k_Number_bool,
    b_Number_bool := (fun_mk (st := s_Number_bool) l_Number_bool hc_Number_bool k_Number_bool).binds (ps := ["self"]) fun _ _ _ _ _ _ us hl => match us, hl with | [_], _ => rfl,
    g_law_pot := PySem.W.mg_of X G a_law_pot,
    F_law_pot := fun_mk (st := s_law_pot) l_law_pot hc_law_pot k_law_pot,
    b_law_pot := (fun_mk (st := s_law_pot) l_law_pot hc_law_pot k_law_pot).binds (ps := ["script", "k"]) fun _ _ _ _ _ _ us hl => match us, hl with | [_, _], _ => rfl,
    g_law_take := PySem.W.mg_of X G a_law_take,
    F_law_take := fun_mk (st := s_law_take) l_law_take hc_law_take k_law_take,
    b_law_take := (fun_mk (st := s_law_take) l_law_take hc_law_take k_law_take).binds (ps := ["pot", "upto"]) fun _ _ _ _ _ _ us hl => match us, hl with | [_, _], _ => rfl,
    g_law_of := PySem.W.mg_of X G a_law_of,
    F_law_of := fun_mk (st := s_law_of) l_law_of hc_law_of k_law_of,
    b_law_of := (fun_mk (st := s_law_of) l_law_of hc_law_of k_law_of).binds (ps := ["pot", "some"]) fun _ _ _ _ _ _ us hl => match us, hl with | [_, _], _ => rfl,
    g_law_drawn := PySem.W.mg_of X G a_law_drawn,
    F_law_drawn := fun_mk (st := s_law_drawn) l_law_drawn hc_law_drawn k_law_drawn,
    b_law_drawn := (fun_mk (st := s_law_drawn) l_law_drawn hc_law_drawn k_law_drawn).binds (ps := ["pot"]) fun _ _ _ _ _ _ us hl => match us, hl with | [_], _ => rfl,
    g_law_sum := PySem.W.mg_of X G a_law_sum,
    F_law_sum := fun_mk (st := s_law_sum) l_law_sum hc_law_sum k_law_sum,
    b_law_sum := (fun_mk (st := s_law_sum) l_law_sum hc_law_sum k_law_sum).binds (ps := ["one", "mate"]) fun _ _ _ _ _ _ us hl => match us, hl with | [_, _], _ => rfl,
    g_law_less := PySem.W.mg_of X G a_law_less,
    F_law_less := fun_mk (st := s_law_less) l_law_less hc_law_less k_law_less,
    b_law_less := (fun_mk (st := s_law_less) l_law_less hc_law_less k_law_less).binds (ps := ["one", "mate"]) fun _ _ _ _ _ _ us hl => match us, hl with | [_, _], _ => rfl,
    g_law_times := PySem.W.mg_of X G a_law_times,
    F_law_times := fun_mk (st := s_law_times) l_law_times hc_law_times k_law_times,
    b_law_times := (fun_mk (st := s_law_times) l_law_times hc_law_times k_law_times).binds (ps := ["one", "mate"]) fun _ _ _ _ _ _ us hl => match us, hl with | [_, _], _ => rfl,
    g_law_turned := PySem.W.mg_of X G a_law_turned,
    F_law_turned := fun_mk (st := s_law_turned) l_law_turned hc_law_turned k_law_turned,
    b_law_turned := (fun_mk (st := s_law_turned) l_law_turned hc_law_turned k_law_turned).binds (ps := ["one"]) fun _ _ _ _ _ _ us hl => match us, hl with | [_], _ => rfl,
    g_law_are_same := PySem.W.mg_of X G a_law_are_same,
    F_law_are_same := fun_mk (st := s_law_are_same) l_law_are_same hc_law_are_same k_law_are_same,
    b_law_are_same := (fun_mk (st := s_law_are_same) l_law_are_same hc_law_are_same k_law_are_same).binds (ps := ["some"]) fun _ _ _ _ _ _ us hl => match us, hl with | [_], _ => rfl,
    g_law_sums_right := PySem.W.mg_of X G a_law_sums_right,
    F_law_sums_right := fun_mk (st := s_law_sums_right) l_law_sums_right hc_law_sums_right k_law_sums_right,
    b_law_sums_right := (fun_mk (st := s_law_sums_right) l_law_sums_right hc_law_sums_right k_law_sums_right).binds (ps := ["a", "b", "c"]) fun _ _ _ _ _ _ us hl => match us, hl with | [_, _, _], _ => rfl,
    g_law_order_right := PySem.W.mg_of X G a_law_order_right,
    F_law_order_right := fun_mk (st := s_law_order_right) l_law_order_right hc_law_order_right k_law_order_right,
    b_law_order_right := (fun_mk (st := s_law_order_right) l_law_order_right hc_law_order_right k_law_order_right).binds (ps := ["a", "b", "c"]) fun _ _ _ _ _ _ us hl => match us, hl with | [_, _, _], _ => rfl,
    F_law := fun_mk (st := s_law) l_law hc_law k_law,
    b_law := (fun_mk (st := s_law) l_law hc_law k_law).binds (ps := ["script"]) fun _ _ _ _ _ _ us hl => match us, hl with | [_], _ => rfl,
    z_isinstance := PySem.W.mg_none_of X G z_isinstance,
    z_int := PySem.W.mg_none_of X G z_int,
    z_bool := PySem.W.mg_none_of X G z_bool,
    z_abs := PySem.W.mg_none_of X G z_abs,
    z_len := PySem.W.mg_none_of X G z_len,
    z_max := PySem.W.mg_none_of X G z_max,
    z_min := PySem.W.mg_none_of X G z_min,
    z_range := PySem.W.mg_none_of X G z_range,
    z_all := PySem.W.mg_none_of X G z_all,
    z_set := PySem.W.mg_none_of X G z_set,
    z_sorted := PySem.W.mg_none_of X G z_sorted,
    z_repr := PySem.W.mg_none_of X G z_repr,
    kit_NumNum := kit_NumNum,
    ne_Number := ne_Number
  }⟩

abbrev LV : Nat := 12
theorem walk {l : PySem.W.OpenLaw} {q : Program} {loose : List Str} {XP : (Str → Option Value) → Heap → Prop} {YP : World → Heap → Prop} {d : DefRec} {K : Params → PySem.W.Frag} (hn : l.most = some 63) (hdf : d.params.defaults = [])
    (hY : ∀ (w : World) (h : Heap), YP w h → (K w.params).In h)
    (F : ∀ (w : World) (mg : Str → Option Value) (fa : Addr) (h : Heap), (K w.params).In h → h.Ns mainGlobals mg → mg d.name = some (.ref fa) →
      ∃ fd : FuncData, (∀ (s : Shared) (u : Value), BindsTo s fd ⟨[u], []⟩ [("script", u)]) ∧ ∀ base : Heap, (K w.params).In base → base.Ns mainGlobals mg → FnOk l.prog w (K w.params) mg base CX0 LV fa fd ["script"] (spLaw (K w.params))) :
    PySem.W.WalkO q loose XP YP l.row.toRowW d [] (fun f vs => PySem.call f vs) :=
  L2.walk_of (n := 63) (k := LV) (x := "script") (CX := fun _ => CX0) (sp := fun w => spLaw (K w.params)) hn (by decide) hdf ⟨rfl, by decide, by decide⟩ hY F (fun _ _ a ns hl _ hS => ⟨a, ns, rfl, hS, hl, fun _ => rfl⟩) fun _ _ _ _ _ z => z
theorem law_mk {P : Program} {w : World} {K : PySem.W.Frag} {h : Heap} {mg : Str → Option Value} {fa : Addr} (X : K.In h) (G : h.Ns mainGlobals mg) (hfa : mg "law" = some (.ref fa))
    {c_Number : Addr}
    {f_is_integer : Addr}
    {oc_is_integer : Value}
    {kV_is_integer : Value}
    {dc_is_integer : Value}
    {pm_is_integer : Value}
    {cd_is_integer : Value}
    {ct_is_integer : Value}
    {od_is_integer : Option Addr}
    {an_is_integer : Option Addr}
    {osl_is_integer : Array (Option Value)}
    {f_shared_divisor : Addr}
    {oc_shared_divisor : Value}
    {kV_shared_divisor : Value}
    {dc_shared_divisor : Value}
    {pm_shared_divisor : Value}
    {cd_shared_divisor : Value}
    {ct_shared_divisor : Value}
    {od_shared_divisor : Option Addr}
    {an_shared_divisor : Option Addr}
    {osl_shared_divisor : Array (Option Value)}
    {f_Number_init : Addr}
    {oc_Number_init : Value}
    {kV_Number_init : Value}
    {dc_Number_init : Value}
    {pm_Number_init : Value}
    {cd_Number_init : Value}
    {ct_Number_init : Value}
    {od_Number_init : Option Addr}
    {an_Number_init : Option Addr}
    {osl_Number_init : Array (Option Value)}
    {T_Number_init : Addr}
    {t_Number_init_0 : Tok}
    {oT_Number_init : Value}
    {dT_Number_init : Option Addr}
    {nT_Number_init : Nat}
    {sT_Number_init : Array (Option Value)}
    {f_Number_top : Addr}
    {p_Number_top : Addr}
    {r_Number_top : List Value}
    {oc_Number_top : Value}
    {kV_Number_top : Value}
    {dc_Number_top : Value}
    {pm_Number_top : Value}
    {cd_Number_top : Value}
    {ct_Number_top : Value}
    {od_Number_top : Option Addr}
    {an_Number_top : Option Addr}
    {osl_Number_top : Array (Option Value)}
    {f_Number_bottom : Addr}
    {p_Number_bottom : Addr}
    {r_Number_bottom : List Value}
    {oc_Number_bottom : Value}
    {kV_Number_bottom : Value}
    {dc_Number_bottom : Value}
    {pm_Number_bottom : Value}
    {cd_Number_bottom : Value}
    {ct_Number_bottom : Value}
    {od_Number_bottom : Option Addr}
    {an_Number_bottom : Option Addr}
    {osl_Number_bottom : Array (Option Value)}
    {f_Number_eq : Addr}
    {oc_Number_eq : Value}
    {kV_Number_eq : Value}
    {dc_Number_eq : Value}
    {pm_Number_eq : Value}
    {cd_Number_eq : Value}
    {ct_Number_eq : Value}
    {od_Number_eq : Option Addr}
    {an_Number_eq : Option Addr}
    {osl_Number_eq : Array (Option Value)}
    {f_Number_is_less : Addr}
    {oc_Number_is_less : Value}
    {kV_Number_is_less : Value}
    {dc_Number_is_less : Value}
    {pm_Number_is_less : Value}
    {cd_Number_is_less : Value}
    {ct_Number_is_less : Value}
    {od_Number_is_less : Option Addr}
    {an_Number_is_less : Option Addr}
    {osl_Number_is_less : Array (Option Value)}
    {f_Number_add : Addr}
    {oc_Number_add : Value}
    {kV_Number_add : Value}
    {dc_Number_add : Value}
    {pm_Number_add : Value}
    {cd_Number_add : Value}
    {ct_Number_add : Value}
    {od_Number_add : Option Addr}
    {an_Number_add : Option Addr}
    {osl_Number_add : Array (Option Value)}
    {f_Number_sub : Addr}
    {oc_Number_sub : Value}
    {kV_Number_sub : Value}
    {dc_Number_sub : Value}
    {pm_Number_sub : Value}
    {cd_Number_sub : Value}
    {ct_Number_sub : Value}
    {od_Number_sub : Option Addr}
    {an_Number_sub : Option Addr}
    {osl_Number_sub : Array (Option Value)}
    {f_Number_mul : Addr}
    {oc_Number_mul : Value}
    {kV_Number_mul : Value}
    {dc_Number_mul : Value}
    {pm_Number_mul : Value}
    {cd_Number_mul : Value}
    {ct_Number_mul : Value}
    {od_Number_mul : Option Addr}
    {an_Number_mul : Option Addr}
    {osl_Number_mul : Array (Option Value)}
    {f_Number_neg : Addr}
    {oc_Number_neg : Value}
    {kV_Number_neg : Value}
    {dc_Number_neg : Value}
    {pm_Number_neg : Value}
    {cd_Number_neg : Value}
    {ct_Number_neg : Value}
    {od_Number_neg : Option Addr}
    {an_Number_neg : Option Addr}
    {osl_Number_neg : Array (Option Value)}
    {f_Number_abs : Addr}
    {oc_Number_abs : Value}
    {kV_Number_abs : Value}
    {dc_Number_abs : Value}
    {pm_Number_abs : Value}
    {cd_Number_abs : Value}
    {ct_Number_abs : Value}
    {od_Number_abs : Option Addr}
    {an_Number_abs : Option Addr}
    {osl_Number_abs : Array (Option Value)}
    {f_Number_bool : Addr}
    {oc_Number_bool : Value}
    {kV_Number_bool : Value}
    {dc_Number_bool : Value}
    {pm_Number_bool : Value}
    {cd_Number_bool : Value}
    {ct_Number_bool : Value}
    {od_Number_bool : Option Addr}
    {an_Number_bool : Option Addr}
    {osl_Number_bool : Array (Option Value)}
    {f_law_pot : Addr}
    {oc_law_pot : Value}
    {kV_law_pot : Value}
    {dc_law_pot : Value}
    {pm_law_pot : Value}
    {cd_law_pot : Value}
    {ct_law_pot : Value}
    {od_law_pot : Option Addr}
    {an_law_pot : Option Addr}
    {osl_law_pot : Array (Option Value)}
    {f_law_take : Addr}
    {oc_law_take : Value}
    {kV_law_take : Value}
    {dc_law_take : Value}
    {pm_law_take : Value}
    {cd_law_take : Value}
    {ct_law_take : Value}
    {od_law_take : Option Addr}
    {an_law_take : Option Addr}
    {osl_law_take : Array (Option Value)}
    {f_law_of : Addr}
    {oc_law_of : Value}
    {kV_law_of : Value}
    {dc_law_of : Value}
    {pm_law_of : Value}
    {cd_law_of : Value}
    {ct_law_of : Value}
    {od_law_of : Option Addr}
    {an_law_of : Option Addr}
    {osl_law_of : Array (Option Value)}
    {f_law_drawn : Addr}
    {oc_law_drawn : Value}
    {kV_law_drawn : Value}
    {dc_law_drawn : Value}
    {pm_law_drawn : Value}
    {cd_law_drawn : Value}
    {ct_law_drawn : Value}
    {od_law_drawn : Option Addr}
    {an_law_drawn : Option Addr}
    {osl_law_drawn : Array (Option Value)}
    {f_law_sum : Addr}
    {oc_law_sum : Value}
    {kV_law_sum : Value}
    {dc_law_sum : Value}
    {pm_law_sum : Value}
    {cd_law_sum : Value}
    {ct_law_sum : Value}
    {od_law_sum : Option Addr}
    {an_law_sum : Option Addr}
    {osl_law_sum : Array (Option Value)}
    {f_law_less : Addr}
    {oc_law_less : Value}
    {kV_law_less : Value}
    {dc_law_less : Value}
    {pm_law_less : Value}
    {cd_law_less : Value}
    {ct_law_less : Value}
    {od_law_less : Option Addr}
    {an_law_less : Option Addr}
    {osl_law_less : Array (Option Value)}
    {f_law_times : Addr}
    {oc_law_times : Value}
    {kV_law_times : Value}
    {dc_law_times : Value}
    {pm_law_times : Value}
    {cd_law_times : Value}
    {ct_law_times : Value}
    {od_law_times : Option Addr}
    {an_law_times : Option Addr}
    {osl_law_times : Array (Option Value)}
    {f_law_turned : Addr}
    {oc_law_turned : Value}
    {kV_law_turned : Value}
    {dc_law_turned : Value}
    {pm_law_turned : Value}
    {cd_law_turned : Value}
    {ct_law_turned : Value}
    {od_law_turned : Option Addr}
    {an_law_turned : Option Addr}
    {osl_law_turned : Array (Option Value)}
    {f_law_are_same : Addr}
    {oc_law_are_same : Value}
    {kV_law_are_same : Value}
    {dc_law_are_same : Value}
    {pm_law_are_same : Value}
    {cd_law_are_same : Value}
    {ct_law_are_same : Value}
    {od_law_are_same : Option Addr}
    {an_law_are_same : Option Addr}
    {osl_law_are_same : Array (Option Value)}
    {f_law_sums_right : Addr}
    {oc_law_sums_right : Value}
    {kV_law_sums_right : Value}
    {dc_law_sums_right : Value}
    {pm_law_sums_right : Value}
    {cd_law_sums_right : Value}
    {ct_law_sums_right : Value}
    {od_law_sums_right : Option Addr}
    {an_law_sums_right : Option Addr}
    {osl_law_sums_right : Array (Option Value)}
    {f_law_order_right : Addr}
    {oc_law_order_right : Value}
    {kV_law_order_right : Value}
    {dc_law_order_right : Value}
    {pm_law_order_right : Value}
    {cd_law_order_right : Value}
    {ct_law_order_right : Value}
    {od_law_order_right : Option Addr}
    {an_law_order_right : Option Addr}
    {osl_law_order_right : Array (Option Value)}
    {f_law : Addr}
    {oc_law : Value}
    {kV_law : Value}
    {dc_law : Value}
    {pm_law : Value}
    {cd_law : Value}
    {ct_law : Value}
    {od_law : Option Addr}
    {an_law : Option Addr}
    {osl_law : Array (Option Value)}
    (a_Number : PySem.W.nsIn K mainGlobals "Number" = some (some (.ref c_Number)))
    (pg_Number : PySem.W.plainGet K c_Number Str.empty = true)
    (hd_Number : PySem.W.hasDictIn K c_Number = true)
    (po_Number : PySem.W.plainOver K c_Number = true)
    (sa_Number : PySem.W.findIn K (.ref c_Number) "__setattr__" = some (some (.builtin "object.__setattr__")))
    (mk_Number : PySem.W.makesIn K c_Number = true)
    (kc_Number : PySem.W.keepIn K (.ref c_Number) = true)
    (sf_Number : PySem.W.selfFirst K c_Number = true)
    (ca_Number : PySem.W.findIn K (.ref c_Number) "__class__" = some (some (.builtin "object.__class__")))
    (cm_Number : PySem.W.mroIn K c_Number (.type "object") = some true)
    (n_Number_own_top : PySem.W.findIn K (.ref c_Number) "own_top" = some none)
    (n_Number_own_bottom : PySem.W.findIn K (.ref c_Number) "own_bottom" = some none)
    (cn : PySem.W.specialIn K (.builtin "object.__class__") "__get__" = some (some (.builtin "getset_descriptor.__get__")))
    (ct : PySem.W.takesIn K (.builtin "object.__class__") = some true)
    (a_is_integer : PySem.W.nsIn K mainGlobals "is_integer" = some (some (.ref f_is_integer)))
    (l_is_integer : K.lookup f_is_integer = some ⟨oc_is_integer, od_is_integer, .func (PySem.W.fnOf "is_integer" "is_integer" (defArgs s_is_integer) (defBody s_is_integer) (defScope s_is_integer) .none kV_is_integer dc_is_integer pm_is_integer an_is_integer cd_is_integer ct_is_integer), osl_is_integer⟩)
    (hc_is_integer : PySem.W.codeIn K cd_is_integer "is_integer" = true)
    (k_is_integer : PySem.W.keepIn K (.ref f_is_integer) = true)
    (a_shared_divisor : PySem.W.nsIn K mainGlobals "shared_divisor" = some (some (.ref f_shared_divisor)))
    (l_shared_divisor : K.lookup f_shared_divisor = some ⟨oc_shared_divisor, od_shared_divisor, .func (PySem.W.fnOf "shared_divisor" "shared_divisor" (defArgs s_shared_divisor) (defBody s_shared_divisor) (defScope s_shared_divisor) .none kV_shared_divisor dc_shared_divisor pm_shared_divisor an_shared_divisor cd_shared_divisor ct_shared_divisor), osl_shared_divisor⟩)
    (hc_shared_divisor : PySem.W.codeIn K cd_shared_divisor "shared_divisor" = true)
    (k_shared_divisor : PySem.W.keepIn K (.ref f_shared_divisor) = true)
    (a_Number_init : PySem.W.findIn K (.ref c_Number) "__init__" = some (some (.ref f_Number_init)))
    (i_Number_init : PySem.W.isFn K (.ref f_Number_init) = true)
    (l_Number_init : K.lookup f_Number_init = some ⟨oc_Number_init, od_Number_init, .func (PySem.W.fnOf "__init__" "Number.__init__" (defArgs s_Number_init) (defBody s_Number_init) (defScope s_Number_init) (.ref T_Number_init) kV_Number_init dc_Number_init pm_Number_init an_Number_init cd_Number_init ct_Number_init), osl_Number_init⟩)
    (hc_Number_init : PySem.W.codeIn K cd_Number_init "Number.__init__" = true)
    (k_Number_init : PySem.W.keepIn K (.ref f_Number_init) = true)
    (lT_Number_init : K.lookup T_Number_init = some ⟨oT_Number_init, dT_Number_init, .seq #[.int 1 t_Number_init_0] nT_Number_init, sT_Number_init⟩)
    (at_Number_top : PySem.W.findIn K (.ref c_Number) "top" = some (some (.ref p_Number_top)))
    (gt_Number_top : PySem.W.specialIn K (.ref p_Number_top) "__get__" = some (some (.builtin "property.__get__")))
    (tk_Number_top : PySem.W.takesIn K (.ref p_Number_top) = some true)
    (rc_Number_top : PySem.W.recIn K p_Number_top "property" = some (.ref f_Number_top :: r_Number_top))
    (l_Number_top : K.lookup f_Number_top = some ⟨oc_Number_top, od_Number_top, .func (PySem.W.fnOf "top" "Number.top" (defArgs s_Number_top) (defBody s_Number_top) (defScope s_Number_top) .none kV_Number_top dc_Number_top pm_Number_top an_Number_top cd_Number_top ct_Number_top), osl_Number_top⟩)
    (hc_Number_top : PySem.W.codeIn K cd_Number_top "Number.top" = true)
    (k_Number_top : PySem.W.keepIn K (.ref f_Number_top) = true)
    (at_Number_bottom : PySem.W.findIn K (.ref c_Number) "bottom" = some (some (.ref p_Number_bottom)))
    (gt_Number_bottom : PySem.W.specialIn K (.ref p_Number_bottom) "__get__" = some (some (.builtin "property.__get__")))
    (tk_Number_bottom : PySem.W.takesIn K (.ref p_Number_bottom) = some true)
    (rc_Number_bottom : PySem.W.recIn K p_Number_bottom "property" = some (.ref f_Number_bottom :: r_Number_bottom))
    (l_Number_bottom : K.lookup f_Number_bottom = some ⟨oc_Number_bottom, od_Number_bottom, .func (PySem.W.fnOf "bottom" "Number.bottom" (defArgs s_Number_bottom) (defBody s_Number_bottom) (defScope s_Number_bottom) .none kV_Number_bottom dc_Number_bottom pm_Number_bottom an_Number_bottom cd_Number_bottom ct_Number_bottom), osl_Number_bottom⟩)
    (hc_Number_bottom : PySem.W.codeIn K cd_Number_bottom "Number.bottom" = true)
    (k_Number_bottom : PySem.W.keepIn K (.ref f_Number_bottom) = true)
    (a_Number_eq : PySem.W.findIn K (.ref c_Number) "__eq__" = some (some (.ref f_Number_eq)))
    (i_Number_eq : PySem.W.isFn K (.ref f_Number_eq) = true)
    (l_Number_eq : K.lookup f_Number_eq = some ⟨oc_Number_eq, od_Number_eq, .func (PySem.W.fnOf "__eq__" "Number.__eq__" (defArgs s_Number_eq) (defBody s_Number_eq) (defScope s_Number_eq) .none kV_Number_eq dc_Number_eq pm_Number_eq an_Number_eq cd_Number_eq ct_Number_eq), osl_Number_eq⟩)
    (hc_Number_eq : PySem.W.codeIn K cd_Number_eq "Number.__eq__" = true)
    (k_Number_eq : PySem.W.keepIn K (.ref f_Number_eq) = true)
    (a_Number_is_less : PySem.W.findIn K (.ref c_Number) "is_less" = some (some (.ref f_Number_is_less)))
    (i_Number_is_less : PySem.W.isFn K (.ref f_Number_is_less) = true)
    (l_Number_is_less : K.lookup f_Number_is_less = some ⟨oc_Number_is_less, od_Number_is_less, .func (PySem.W.fnOf "is_less" "Number.is_less" (defArgs s_Number_is_less) (defBody s_Number_is_less) (defScope s_Number_is_less) .none kV_Number_is_less dc_Number_is_less pm_Number_is_less an_Number_is_less cd_Number_is_less ct_Number_is_less), osl_Number_is_less⟩)
    (hc_Number_is_less : PySem.W.codeIn K cd_Number_is_less "Number.is_less" = true)
    (k_Number_is_less : PySem.W.keepIn K (.ref f_Number_is_less) = true)
    (a_Number_add : PySem.W.findIn K (.ref c_Number) "__add__" = some (some (.ref f_Number_add)))
    (i_Number_add : PySem.W.isFn K (.ref f_Number_add) = true)
    (l_Number_add : K.lookup f_Number_add = some ⟨oc_Number_add, od_Number_add, .func (PySem.W.fnOf "__add__" "Number.__add__" (defArgs s_Number_add) (defBody s_Number_add) (defScope s_Number_add) .none kV_Number_add dc_Number_add pm_Number_add an_Number_add cd_Number_add ct_Number_add), osl_Number_add⟩)
    (hc_Number_add : PySem.W.codeIn K cd_Number_add "Number.__add__" = true)
    (k_Number_add : PySem.W.keepIn K (.ref f_Number_add) = true)
    (a_Number_sub : PySem.W.findIn K (.ref c_Number) "__sub__" = some (some (.ref f_Number_sub)))
    (i_Number_sub : PySem.W.isFn K (.ref f_Number_sub) = true)
    (l_Number_sub : K.lookup f_Number_sub = some ⟨oc_Number_sub, od_Number_sub, .func (PySem.W.fnOf "__sub__" "Number.__sub__" (defArgs s_Number_sub) (defBody s_Number_sub) (defScope s_Number_sub) .none kV_Number_sub dc_Number_sub pm_Number_sub an_Number_sub cd_Number_sub ct_Number_sub), osl_Number_sub⟩)
    (hc_Number_sub : PySem.W.codeIn K cd_Number_sub "Number.__sub__" = true)
    (k_Number_sub : PySem.W.keepIn K (.ref f_Number_sub) = true)
    (a_Number_mul : PySem.W.findIn K (.ref c_Number) "__mul__" = some (some (.ref f_Number_mul)))
    (i_Number_mul : PySem.W.isFn K (.ref f_Number_mul) = true)
    (l_Number_mul : K.lookup f_Number_mul = some ⟨oc_Number_mul, od_Number_mul, .func (PySem.W.fnOf "__mul__" "Number.__mul__" (defArgs s_Number_mul) (defBody s_Number_mul) (defScope s_Number_mul) .none kV_Number_mul dc_Number_mul pm_Number_mul an_Number_mul cd_Number_mul ct_Number_mul), osl_Number_mul⟩)
    (hc_Number_mul : PySem.W.codeIn K cd_Number_mul "Number.__mul__" = true)
    (k_Number_mul : PySem.W.keepIn K (.ref f_Number_mul) = true)
    (a_Number_neg : PySem.W.findIn K (.ref c_Number) "__neg__" = some (some (.ref f_Number_neg)))
    (i_Number_neg : PySem.W.isFn K (.ref f_Number_neg) = true)
    (l_Number_neg : K.lookup f_Number_neg = some ⟨oc_Number_neg, od_Number_neg, .func (PySem.W.fnOf "__neg__" "Number.__neg__" (defArgs s_Number_neg) (defBody s_Number_neg) (defScope s_Number_neg) .none kV_Number_neg dc_Number_neg pm_Number_neg an_Number_neg cd_Number_neg ct_Number_neg), osl_Number_neg⟩)
    (hc_Number_neg : PySem.W.codeIn K cd_Number_neg "Number.__neg__" = true)
    (k_Number_neg : PySem.W.keepIn K (.ref f_Number_neg) = true)
    (a_Number_abs : PySem.W.findIn K (.ref c_Number) "__abs__" = some (some (.ref f_Number_abs)))
    (i_Number_abs : PySem.W.isFn K (.ref f_Number_abs) = true)
    (l_Number_abs : K.lookup f_Number_abs = some ⟨oc_Number_abs, od_Number_abs, .func (PySem.W.fnOf "__abs__" "Number.__abs__" (defArgs s_Number_abs) (defBody s_Number_abs) (defScope s_Number_abs) .none kV_Number_abs dc_Number_abs pm_Number_abs an_Number_abs cd_Number_abs ct_Number_abs), osl_Number_abs⟩)
    (hc_Number_abs : PySem.W.codeIn K cd_Number_abs "Number.__abs__" = true)
    (k_Number_abs : PySem.W.keepIn K (.ref f_Number_abs) = true)
    (a_Number_bool : PySem.W.findIn K (.ref c_Number) "__bool__" = some (some (.ref f_Number_bool)))
    (i_Number_bool : PySem.W.isFn K (.ref f_Number_bool) = true)
    (l_Number_bool : K.lookup f_Number_bool = some ⟨oc_Number_bool, od_Number_bool, .func (PySem.W.fnOf "__bool__" "Number.__bool__" (defArgs s_Number_bool) (defBody s_Number_bool) (defScope s_Number_bool) .none kV_Number_bool dc_Number_bool pm_Number_bool an_Number_bool cd_Number_bool ct_Number_bool), osl_Number_bool⟩)
    (hc_Number_bool : PySem.W.codeIn K cd_Number_bool "Number.__bool__" = true)
    (k_Number_bool : PySem.W.keepIn K (.ref f_Number_bool) = true)
    (a_law_pot : PySem.W.nsIn K mainGlobals "_law_pot" = some (some (.ref f_law_pot)))
    (l_law_pot : K.lookup f_law_pot = some ⟨oc_law_pot, od_law_pot, .func (PySem.W.fnOf "_law_pot" "_law_pot" (defArgs s_law_pot) (defBody s_law_pot) (defScope s_law_pot) .none kV_law_pot dc_law_pot pm_law_pot an_law_pot cd_law_pot ct_law_pot), osl_law_pot⟩)
    (hc_law_pot : PySem.W.codeIn K cd_law_pot "_law_pot" = true)
    (k_law_pot : PySem.W.keepIn K (.ref f_law_pot) = true)
    (a_law_take : PySem.W.nsIn K mainGlobals "_law_take" = some (some (.ref f_law_take)))
    (l_law_take : K.lookup f_law_take = some ⟨oc_law_take, od_law_take, .func (PySem.W.fnOf "_law_take" "_law_take" (defArgs s_law_take) (defBody s_law_take) (defScope s_law_take) .none kV_law_take dc_law_take pm_law_take an_law_take cd_law_take ct_law_take), osl_law_take⟩)
    (hc_law_take : PySem.W.codeIn K cd_law_take "_law_take" = true)
    (k_law_take : PySem.W.keepIn K (.ref f_law_take) = true)
    (a_law_of : PySem.W.nsIn K mainGlobals "_law_of" = some (some (.ref f_law_of)))
    (l_law_of : K.lookup f_law_of = some ⟨oc_law_of, od_law_of, .func (PySem.W.fnOf "_law_of" "_law_of" (defArgs s_law_of) (defBody s_law_of) (defScope s_law_of) .none kV_law_of dc_law_of pm_law_of an_law_of cd_law_of ct_law_of), osl_law_of⟩)
    (hc_law_of : PySem.W.codeIn K cd_law_of "_law_of" = true)
    (k_law_of : PySem.W.keepIn K (.ref f_law_of) = true)
    (a_law_drawn : PySem.W.nsIn K mainGlobals "_law_drawn" = some (some (.ref f_law_drawn)))
    (l_law_drawn : K.lookup f_law_drawn = some ⟨oc_law_drawn, od_law_drawn, .func (PySem.W.fnOf "_law_drawn" "_law_drawn" (defArgs s_law_drawn) (defBody s_law_drawn) (defScope s_law_drawn) .none kV_law_drawn dc_law_drawn pm_law_drawn an_law_drawn cd_law_drawn ct_law_drawn), osl_law_drawn⟩)
    (hc_law_drawn : PySem.W.codeIn K cd_law_drawn "_law_drawn" = true)
    (k_law_drawn : PySem.W.keepIn K (.ref f_law_drawn) = true)
    (a_law_sum : PySem.W.nsIn K mainGlobals "_law_sum" = some (some (.ref f_law_sum)))
    (l_law_sum : K.lookup f_law_sum = some ⟨oc_law_sum, od_law_sum, .func (PySem.W.fnOf "_law_sum" "_law_sum" (defArgs s_law_sum) (defBody s_law_sum) (defScope s_law_sum) .none kV_law_sum dc_law_sum pm_law_sum an_law_sum cd_law_sum ct_law_sum), osl_law_sum⟩)
    (hc_law_sum : PySem.W.codeIn K cd_law_sum "_law_sum" = true)
    (k_law_sum : PySem.W.keepIn K (.ref f_law_sum) = true)
    (a_law_less : PySem.W.nsIn K mainGlobals "_law_less" = some (some (.ref f_law_less)))
    (l_law_less : K.lookup f_law_less = some ⟨oc_law_less, od_law_less, .func (PySem.W.fnOf "_law_less" "_law_less" (defArgs s_law_less) (defBody s_law_less) (defScope s_law_less) .none kV_law_less dc_law_less pm_law_less an_law_less cd_law_less ct_law_less), osl_law_less⟩)
    (hc_law_less : PySem.W.codeIn K cd_law_less "_law_less" = true)
    (k_law_less : PySem.W.keepIn K (.ref f_law_less) = true)
    (a_law_times : PySem.W.nsIn K mainGlobals "_law_times" = some (some (.ref f_law_times)))
    (l_law_times : K.lookup f_law_times = some ⟨oc_law_times, od_law_times, .func (PySem.W.fnOf "_law_times" "_law_times" (defArgs s_law_times) (defBody s_law_times) (defScope s_law_times) .none kV_law_times dc_law_times pm_law_times an_law_times cd_law_times ct_law_times), osl_law_times⟩)
    (hc_law_times : PySem.W.codeIn K cd_law_times "_law_times" = true)
    (k_law_times : PySem.W.keepIn K (.ref f_law_times) = true)
    (a_law_turned : PySem.W.nsIn K mainGlobals "_law_turned" = some (some (.ref f_law_turned)))
    (l_law_turned : K.lookup f_law_turned = some ⟨oc_law_turned, od_law_turned, .func (PySem.W.fnOf "_law_turned" "_law_turned" (defArgs s_law_turned) (defBody s_law_turned) (defScope s_law_turned) .none kV_law_turned dc_law_turned pm_law_turned an_law_turned cd_law_turned ct_law_turned), osl_law_turned⟩)
    (hc_law_turned : PySem.W.codeIn K cd_law_turned "_law_turned" = true)
    (k_law_turned : PySem.W.keepIn K (.ref f_law_turned) = true)
    (a_law_are_same : PySem.W.nsIn K mainGlobals "_law_are_same" = some (some (.ref f_law_are_same)))
    (l_law_are_same : K.lookup f_law_are_same = some ⟨oc_law_are_same, od_law_are_same, .func (PySem.W.fnOf "_law_are_same" "_law_are_same" (defArgs s_law_are_same) (defBody s_law_are_same) (defScope s_law_are_same) .none kV_law_are_same dc_law_are_same pm_law_are_same an_law_are_same cd_law_are_same ct_law_are_same), osl_law_are_same⟩)
    (hc_law_are_same : PySem.W.codeIn K cd_law_are_same "_law_are_same" = true)
    (k_law_are_same : PySem.W.keepIn K (.ref f_law_are_same) = true)
    (a_law_sums_right : PySem.W.nsIn K mainGlobals "_law_sums_right" = some (some (.ref f_law_sums_right)))
    (l_law_sums_right : K.lookup f_law_sums_right = some ⟨oc_law_sums_right, od_law_sums_right, .func (PySem.W.fnOf "_law_sums_right" "_law_sums_right" (defArgs s_law_sums_right) (defBody s_law_sums_right) (defScope s_law_sums_right) .none kV_law_sums_right dc_law_sums_right pm_law_sums_right an_law_sums_right cd_law_sums_right ct_law_sums_right), osl_law_sums_right⟩)
    (hc_law_sums_right : PySem.W.codeIn K cd_law_sums_right "_law_sums_right" = true)
    (k_law_sums_right : PySem.W.keepIn K (.ref f_law_sums_right) = true)
    (a_law_order_right : PySem.W.nsIn K mainGlobals "_law_order_right" = some (some (.ref f_law_order_right)))
    (l_law_order_right : K.lookup f_law_order_right = some ⟨oc_law_order_right, od_law_order_right, .func (PySem.W.fnOf "_law_order_right" "_law_order_right" (defArgs s_law_order_right) (defBody s_law_order_right) (defScope s_law_order_right) .none kV_law_order_right dc_law_order_right pm_law_order_right an_law_order_right cd_law_order_right ct_law_order_right), osl_law_order_right⟩)
    (hc_law_order_right : PySem.W.codeIn K cd_law_order_right "_law_order_right" = true)
    (k_law_order_right : PySem.W.keepIn K (.ref f_law_order_right) = true)
    (a_law : PySem.W.nsIn K mainGlobals "law" = some (some (.ref f_law)))
    (l_law : K.lookup f_law = some ⟨oc_law, od_law, .func (PySem.W.fnOf "law" "law" (defArgs s_law) (defBody s_law) (defScope s_law) .none kV_law dc_law pm_law an_law cd_law ct_law), osl_law⟩)
    (hc_law : PySem.W.codeIn K cd_law "law" = true)
    (k_law : PySem.W.keepIn K (.ref f_law) = true)
    (z_isinstance : PySem.W.nsIn K mainGlobals "isinstance" = some none)
    (z_int : PySem.W.nsIn K mainGlobals "int" = some none)
    (z_bool : PySem.W.nsIn K mainGlobals "bool" = some none)
    (z_abs : PySem.W.nsIn K mainGlobals "abs" = some none)
    (z_len : PySem.W.nsIn K mainGlobals "len" = some none)
    (z_max : PySem.W.nsIn K mainGlobals "max" = some none)
    (z_min : PySem.W.nsIn K mainGlobals "min" = some none)
    (z_range : PySem.W.nsIn K mainGlobals "range" = some none)
    (z_all : PySem.W.nsIn K mainGlobals "all" = some none)
    (z_set : PySem.W.nsIn K mainGlobals "set" = some none)
    (z_sorted : PySem.W.nsIn K mainGlobals "sorted" = some none)
    (z_repr : PySem.W.nsIn K mainGlobals "repr" = some none)
    (kit_NumNum : PySem.W.kitOne K (.ref c_Number) (.ref c_Number) = some true)
    (ne_Number : PySem.W.findIn K (.ref c_Number) "__ne__" = some (some (.builtin "object.__ne__")))
    : ∃ fd : FuncData, (∀ (s : Shared) (v : Value), BindsTo s fd ⟨[v], []⟩ [("script", v)]) ∧ ∀ base : Heap, K.In base → base.Ns mainGlobals mg → FnOk P w K mg base CX0 LV fa fd ["script"] (spLaw K) := by
  obtain ⟨A, eA, T⟩ := all_mk X G a_Number pg_Number hd_Number po_Number sa_Number mk_Number kc_Number sf_Number ca_Number cm_Number n_Number_own_top n_Number_own_bottom cn ct a_is_integer l_is_integer hc_is_integer k_is_integer a_shared_divisor l_shared_divisor hc_shared_divisor k_shared_divisor a_Number_init i_Number_init l_Number_init hc_Number_init k_Number_init lT_Number_init at_Number_top gt_Number_top tk_Number_top rc_Number_top l_Number_top hc_Number_top k_Number_top at_Number_bottom gt_Number_bottom tk_Number_bottom rc_Number_bottom l_Number_bottom hc_Number_bottom k_Number_bottom a_Number_eq i_Number_eq l_Number_eq hc_Number_eq k_Number_eq a_Number_is_less i_Number_is_less l_Number_is_less hc_Number_is_less k_Number_is_less a_Number_add i_Number_add l_Number_add hc_Number_add k_Number_add a_Number_sub i_Number_sub l_Number_sub hc_Number_sub k_Number_sub a_Number_mul i_Number_mul l_Number_mul hc_Number_mul k_Number_mul a_Number_neg i_Number_neg l_Number_neg hc_Number_neg k_Number_neg a_Number_abs i_Number_abs l_Number_abs hc_Number_abs k_Number_abs a_Number_bool i_Number_bool l_Number_bool hc_Number_bool k_Number_bool a_law_pot l_law_pot hc_law_pot k_law_pot a_law_take l_law_take hc_law_take k_law_take a_law_of l_law_of hc_law_of k_law_of a_law_drawn l_law_drawn hc_law_drawn k_law_drawn a_law_sum l_law_sum hc_law_sum k_law_sum a_law_less l_law_less hc_law_less k_law_less a_law_times l_law_times hc_law_times k_law_times a_law_turned l_law_turned hc_law_turned k_law_turned a_law_are_same l_law_are_same hc_law_are_same k_law_are_same a_law_sums_right l_law_sums_right hc_law_sums_right k_law_sums_right a_law_order_right l_law_order_right hc_law_order_right k_law_order_right a_law l_law hc_law k_law z_isinstance z_int z_bool z_abs z_len z_max z_min z_range z_all z_set z_sorted z_repr kit_NumNum ne_Number
  have e := hfa.symm.trans (PySem.W.mg_of X G a_law)
  cases e
  refine ⟨A.d_law, fun s v => ?_, fun base _ _ => eA ▸ (ok_law T).mono (by decide)⟩
  obtain ⟨oc, od, kV, doc, pm, an, cdv, ct, osl, hfd, _, _⟩ := T.F_law.ex
  rw [hfd]
  exact .of_eq rfl
end Q
open PySem PySem.W PyProof.Rows
set_option maxRecDepth 100000 in
set_option maxHeartbeats 0 in
theorem PySem.Challenge.cw_whatspeed_k04_whole_numbers_in_sums_holds : PySem.Challenge.rw_whatspeed_k04_whole_numbers_in_sums.Holds := by
  w_on; o_law; k_head; (case hw => w_witness2)
  k_fill
  refine Q.walk (l := PySem.Challenge.rw_whatspeed_k04_whole_numbers_in_sums) rfl rfl (fun w h Y => PySem.W.kIn_of Y) ?F
  case F =>
    intro w mg fa h KX G hmg
    refine' Q.law_mk KX G hmg ?a_Number ?pg_Number ?hd_Number ?po_Number ?sa_Number ?mk_Number ?kc_Number ?sf_Number ?ca_Number ?cm_Number ?n_Number_own_top ?n_Number_own_bottom ?cn ?ct ?a_is_integer ?l_is_integer ?hc_is_integer ?k_is_integer ?a_shared_divisor ?l_shared_divisor ?hc_shared_divisor ?k_shared_divisor ?a_Number_init ?i_Number_init ?l_Number_init ?hc_Number_init ?k_Number_init ?lT_Number_init ?at_Number_top ?gt_Number_top ?tk_Number_top ?rc_Number_top ?l_Number_top ?hc_Number_top ?k_Number_top ?at_Number_bottom ?gt_Number_bottom ?tk_Number_bottom ?rc_Number_bottom ?l_Number_bottom ?hc_Number_bottom ?k_Number_bottom ?a_Number_eq ?i_Number_eq ?l_Number_eq ?hc_Number_eq ?k_Number_eq ?a_Number_is_less ?i_Number_is_less ?l_Number_is_less ?hc_Number_is_less ?k_Number_is_less ?a_Number_add ?i_Number_add ?l_Number_add ?hc_Number_add ?k_Number_add ?a_Number_sub ?i_Number_sub ?l_Number_sub ?hc_Number_sub ?k_Number_sub ?a_Number_mul ?i_Number_mul ?l_Number_mul ?hc_Number_mul ?k_Number_mul ?a_Number_neg ?i_Number_neg ?l_Number_neg ?hc_Number_neg ?k_Number_neg ?a_Number_abs ?i_Number_abs ?l_Number_abs ?hc_Number_abs ?k_Number_abs ?a_Number_bool ?i_Number_bool ?l_Number_bool ?hc_Number_bool ?k_Number_bool ?a_law_pot ?l_law_pot ?hc_law_pot ?k_law_pot ?a_law_take ?l_law_take ?hc_law_take ?k_law_take ?a_law_of ?l_law_of ?hc_law_of ?k_law_of ?a_law_drawn ?l_law_drawn ?hc_law_drawn ?k_law_drawn ?a_law_sum ?l_law_sum ?hc_law_sum ?k_law_sum ?a_law_less ?l_law_less ?hc_law_less ?k_law_less ?a_law_times ?l_law_times ?hc_law_times ?k_law_times ?a_law_turned ?l_law_turned ?hc_law_turned ?k_law_turned ?a_law_are_same ?l_law_are_same ?hc_law_are_same ?k_law_are_same ?a_law_sums_right ?l_law_sums_right ?hc_law_sums_right ?k_law_sums_right ?a_law_order_right ?l_law_order_right ?hc_law_order_right ?k_law_order_right ?a_law ?l_law ?hc_law ?k_law ?z_isinstance ?z_int ?z_bool ?z_abs ?z_len ?z_max ?z_min ?z_range ?z_all ?z_set ?z_sorted ?z_repr ?kit_NumNum ?ne_Number
    (case a_Number => k_is)
    (case pg_Number => k_is)
    (case hd_Number => k_is)
    (case po_Number => k_is)
    (case sa_Number => k_is)
    (case mk_Number => k_is)
    (case kc_Number => k_is)
    (case sf_Number => k_is)
    (case ca_Number => k_is)
    (case cm_Number => k_is)
    (case n_Number_own_top => k_is)
    (case n_Number_own_bottom => k_is)
    (case cn => k_is)
    (case ct => k_is)
    (case a_is_integer => k_is)
    (case l_is_integer => k_is)
    (case hc_is_integer => k_is)
    (case k_is_integer => k_is)
    (case a_shared_divisor => k_is)
    (case l_shared_divisor => k_is)
    (case hc_shared_divisor => k_is)
    (case k_shared_divisor => k_is)
    (case a_Number_init => k_is)
    (case i_Number_init => k_is)
    (case l_Number_init => k_is)
    (case hc_Number_init => k_is)
    (case k_Number_init => k_is)
    (case lT_Number_init => k_is)
    (case at_Number_top => k_is)
    (case gt_Number_top => k_is)
    (case tk_Number_top => k_is)
    (case rc_Number_top => k_is)
    (case l_Number_top => k_is)
    (case hc_Number_top => k_is)
    (case k_Number_top => k_is)
    (case at_Number_bottom => k_is)
    (case gt_Number_bottom => k_is)
    (case tk_Number_bottom => k_is)
    (case rc_Number_bottom => k_is)
    (case l_Number_bottom => k_is)
    (case hc_Number_bottom => k_is)
    (case k_Number_bottom => k_is)
    (case a_Number_eq => k_is)
    (case i_Number_eq => k_is)
    (case l_Number_eq => k_is)
    (case hc_Number_eq => k_is)
    (case k_Number_eq => k_is)
    (case a_Number_is_less => k_is)
    (case i_Number_is_less => k_is)
    (case l_Number_is_less => k_is)
    (case hc_Number_is_less => k_is)
    (case k_Number_is_less => k_is)
    (case a_Number_add => k_is)
    (case i_Number_add => k_is)
    (case l_Number_add => k_is)
    (case hc_Number_add => k_is)
    (case k_Number_add => k_is)
    (case a_Number_sub => k_is)
    (case i_Number_sub => k_is)
    (case l_Number_sub => k_is)
    (case hc_Number_sub => k_is)
    (case k_Number_sub => k_is)
    (case a_Number_mul => k_is)
    (case i_Number_mul => k_is)
    (case l_Number_mul => k_is)
    (case hc_Number_mul => k_is)
    (case k_Number_mul => k_is)
    (case a_Number_neg => k_is)
    (case i_Number_neg => k_is)
    (case l_Number_neg => k_is)
    (case hc_Number_neg => k_is)
    (case k_Number_neg => k_is)
    (case a_Number_abs => k_is)
    (case i_Number_abs => k_is)
    (case l_Number_abs => k_is)
    (case hc_Number_abs => k_is)
    (case k_Number_abs => k_is)
    (case a_Number_bool => k_is)
    (case i_Number_bool => k_is)
    (case l_Number_bool => k_is)
    (case hc_Number_bool => k_is)
    (case k_Number_bool => k_is)
    (case a_law_pot => k_is)
    (case l_law_pot => k_is)
    (case hc_law_pot => k_is)
    (case k_law_pot => k_is)
    (case a_law_take => k_is)
    (case l_law_take => k_is)
    (case hc_law_take => k_is)
    (case k_law_take => k_is)
    (case a_law_of => k_is)
    (case l_law_of => k_is)
    (case hc_law_of => k_is)
    (case k_law_of => k_is)
    (case a_law_drawn => k_is)
    (case l_law_drawn => k_is)
    (case hc_law_drawn => k_is)
    (case k_law_drawn => k_is)
    (case a_law_sum => k_is)
    (case l_law_sum => k_is)
    (case hc_law_sum => k_is)
    (case k_law_sum => k_is)
    (case a_law_less => k_is)
    (case l_law_less => k_is)
    (case hc_law_less => k_is)
    (case k_law_less => k_is)
    (case a_law_times => k_is)
    (case l_law_times => k_is)
    (case hc_law_times => k_is)
    (case k_law_times => k_is)
    (case a_law_turned => k_is)
    (case l_law_turned => k_is)
    (case hc_law_turned => k_is)
    (case k_law_turned => k_is)
    (case a_law_are_same => k_is)
    (case l_law_are_same => k_is)
    (case hc_law_are_same => k_is)
    (case k_law_are_same => k_is)
    (case a_law_sums_right => k_is)
    (case l_law_sums_right => k_is)
    (case hc_law_sums_right => k_is)
    (case k_law_sums_right => k_is)
    (case a_law_order_right => k_is)
    (case l_law_order_right => k_is)
    (case hc_law_order_right => k_is)
    (case k_law_order_right => k_is)
    (case a_law => k_is)
    (case l_law => k_is)
    (case hc_law => k_is)
    (case k_law => k_is)
    (case z_isinstance => k_is)
    (case z_int => k_is)
    (case z_bool => k_is)
    (case z_abs => k_is)
    (case z_len => k_is)
    (case z_max => k_is)
    (case z_min => k_is)
    (case z_range => k_is)
    (case z_all => k_is)
    (case z_set => k_is)
    (case z_sorted => k_is)
    (case z_repr => k_is)
    (case kit_NumNum => kit_is)
    (case ne_Number => k_is)
