import PyProof.Rows.All
import Wide.All
import OpenK.AllK
import Wide.FinOn
import KE.KOpsOwn
import KE.RegKIsAll
import HandS.ForMost
import HandS.ForExc
import HandS.Wide
import HandS.IsInst
import HandS.Property
import HandS.Star
import HandS.SlotsOwn
import HandS.MakeKw
import HandS.Evl
import PySem.Challenge.RW_whatspeed_k06_where_lines_meet
set_option Elab.async false
set_option linter.all false
set_option maxRecDepth 100000
set_option maxHeartbeats 2000000
namespace WL
open PySem PySem.Spec PyProof.Rows L2

/-! ### operators that the bundles lack -/
def CPowW (i j : Int) : Prop := 0 ≤ j ∧ (Builtin.Int.intBits i : Int) * j ≤ 2 ^ 27
def CDivG (i j : Int) : Prop := j ≠ 0 ∧ j.natAbs.log2 < 9000
section
variable {X : Cx}
theorem op_powW : OpR X (binaryOp .Pow) (rI CPowW fun i j => .int (i ^ j.toNat)) := opI fun _ _ _ _ _ _ _ hc q => pow_int hc.1 hc.2 q
theorem op_fdivG : OpR X (binaryOp .FloorDiv) (rI CDivG fun i j => .int (i.fdiv j)) := opI fun _ _ _ _ _ _ _ hc q =>
  floordiv_int hc.1 q (.inl (PyProof.noPylong_of_log2 hc.2))
end

/-! ### an own class's operators: x op y, both instances of the class at C -/
def rOwn2 (C : Addr) (sp : Sp) (E : XK) : R2 := fun x y H Q => ∃ a dx fs b dy gs, x = .ref a ∧ y = .ref b ∧ H a = some (.ins C dx fs) ∧ H b = some (.ins C dy gs) ∧ sp [x, y] H Q E
/-- x == y, x an instance of the class at C, y of a type that is not below it -/
def rOwnEq (K : PySem.W.Frag) (C : Addr) (sp : Sp) (E : XK) : R2 := fun x y H Q => ∃ a dx fs t, x = .ref a ∧ H a = some (.ins C dx fs) ∧ TyX K H y t ∧ PySem.W.notFirst K C t = true ∧ sp [x, y] H Q E
section
variable {X : Cx} {CX : CXT} {n : Nat} {C g : Addr} {fd : FuncData} {ps : List Str} {sp : Sp} {E : XK}
theorem op_own2 {op : Operator} (F : FnOk X.prog X.w X.K X.mg X.base CX n g fd ps sp) (hb : Binds X.K fd ps []) (hs : PySem.W.findIn X.K (.ref C) (PySem.dunder op.info.2) = some (some (.ref g)))
    (hf : PySem.W.isFn X.K (.ref g) = true) (hc : PySem.W.selfFirst X.K C = true) (hr : Room n X.A) (hx : Passes CX X E) : OpR X (binaryOp op) (rOwn2 C sp E) := by
  intro pins s σ H x y v u Q I rx ry h
  obtain ⟨a, dx, fs, b, dy, gs, rfl, rfl, ha, hb', q⟩ := h
  cases (show v = Value.ref a from rx)
  cases (show u = Value.ref b from ry)
  obtain ⟨mA, J, _⟩ := ins_get I.hok ha
  obtain ⟨mB, J', _⟩ := ins_get I.hok hb'
  obtain ⟨od, J, _⟩ := J.look
  obtain ⟨od', J', _⟩ := J'.look
  obtain ⟨m, hF⟩ := I.fr
  refine PySem.W.binop_K hF I.ok.mod.kin J J'.type hc hs hf ?_
  refine wpAny_mono (run_fn (us := [.ref a, .ref b]) (vs := [.ref a, .ref b]) (dvs := []) (ds := []) F hr hb .nil hx I (.cons rfl (.cons rfl .nil)) q) (fun w s' z => ?_) fun _ _ x => x
  obtain ⟨z', H', I', rz, qz⟩ := z
  exact SlX.cmpback rz ⟨z', H', I', rz, qz⟩
theorem op_ownEq (F : FnOk X.prog X.w X.K X.mg X.base CX n g fd ps sp) (hb : Binds X.K fd ps []) (hs : PySem.W.findIn X.K (.ref C) "__eq__" = some (some (.ref g)))
    (hf : PySem.W.isFn X.K (.ref g) = true) (hr : Room n X.A) (hx : Passes CX X E) : OpR X (compareOp .Eq) (rOwnEq X.K C sp E) := by
  intro pins s σ H x y v u Q I rx ry h
  obtain ⟨a, dx, fs, t, rfl, ha, ty, hn, q⟩ := h
  cases (show v = Value.ref a from rx)
  obtain ⟨mA, J, _⟩ := ins_get I.hok ha
  obtain ⟨od, J, _⟩ := J.look
  obtain ⟨m, hF⟩ := I.fr
  obtain ⟨P, Z, p, _⟩ := kit_of I ry ty
  show wpAny (model X.prog X.w) X.A (richCompare .Eq (.ref a) u) (EP X pins σ Q) X.xe s
  refine PySem.W.cmp_K (op := .Eq) hr.units0 hF I.ok.mod.kin J (Z.ty _ _ I.kIn p) hn hs hf ?_
  refine wpAny_mono (run_fn (us := [.ref a, u]) (vs := [.ref a, y]) (dvs := []) (ds := []) F hr hb .nil hx I (.cons rfl (.cons ry .nil)) q) (fun w s' z => ?_) fun _ _ x => x
  obtain ⟨z', H', I', rz, qz⟩ := z
  exact SlX.cmpback rz ⟨z', H', I', rz, qz⟩
/-- -x -/
def rOwn1 (C : Addr) (sp : Sp) (E : XK) : V → Hp → VK → Prop := fun x H Q => ∃ a dx fs, x = .ref a ∧ H a = some (.ins C dx fs) ∧ sp [x] H Q E
theorem un_ownNeg (F : FnOk X.prog X.w X.K X.mg X.base CX n g fd ps sp) (hb : Binds X.K fd ps []) (hs : PySem.W.findIn X.K (.ref C) "__neg__" = some (some (.ref g)))
    (hf : PySem.W.isFn X.K (.ref g) = true) (hr : Room n X.A) (hx : Passes CX X E) : UnR X (unaryOp .USub) (rOwn1 C sp E) := by
  intro pins s σ H x v Q I rx h
  obtain ⟨a, dx, fs, rfl, ha, q⟩ := h
  cases (show v = Value.ref a from rx)
  obtain ⟨mA, J, _⟩ := ins_get I.hok ha
  obtain ⟨od, J, _⟩ := J.look
  obtain ⟨m, hF⟩ := I.fr
  exact PySem.W.ksp_neg hF I.ok.mod.kin J hs hf (run_fn (us := [.ref a]) (vs := [.ref a]) (dvs := []) (ds := []) F hr hb .nil hx I (.cons rfl .nil) q)
end

/-! ### calls by keywords: f(e, .., k = v), o.m(e, .., k = v) -/
def tMethK (C : Addr) (m : Str) (n mm : Nat) (sp : Sp) (gV : List V → List V → List V) (E : XK) (ta : TE) (t tk : TA) : TE := fun σ H Q => ta σ H fun x H1 => ∃ a dx fs, x = .ref a ∧ H1 a = some (.ins C dx fs) ∧ fs.lookup m = none ∧
  t σ H1 fun vs H2 => tk σ H2 fun zs H3 => vs.length = n ∧ zs.length = mm ∧ sp (gV (x :: vs) zs) H3 Q E
def tCallKN (n mm : Nat) (sp : Sp) (gV : List V → List V → List V) (E : XK) (t tk : TA) : TE := fun σ H Q => t σ H fun vs H2 => tk σ H2 fun zs H3 => vs.length = n ∧ zs.length = mm ∧ sp (gV vs zs) H3 Q E
theorem kbn_of {K : PySem.W.Frag} {x qual : Str} {st : Stmt} {f : Addr} {fd : FuncData} {ps : List Str} (F : Fun K x qual st f fd) (n : Nat) (ks : List Str) (g : {α : Type} → List α → List α → List α)
    (hrel : ∀ {vs zs : List V} {us ws : List Value}, Vals vs us → Vals zs ws → Vals (g vs zs) (g us ws))
    (h : ∀ (kV doc pm : Value) (an : Option Addr) (cdv ct : Value) (us ws : List Value), us.length = n → ws.length = ks.length →
      bindArgs (PySem.W.fnOf x qual (defArgs st) (defBody st) (defScope st) .none kV doc pm an cdv ct) ⟨us, ks.zip ws⟩ = pure (ps.zip (g us ws))) : KBn K fd ps n ks (fun us ws => g us ws) (fun vs zs => g vs zs) := by
  obtain ⟨oc, od, kV, doc, pm, an, cdv, ct, osl, rfl, lk, hcd⟩ := F.ex
  exact ⟨fun s us ws X l1 l2 => .of_eq (h kV doc pm an cdv ct us ws l1 l2), fun r1 r2 => hrel r1 r2⟩
section
variable {X : Cx} {CX : CXT} {k n : Nat} {f C : Addr} {fd : FuncData} {ps ks : List Str} {sp : Sp} {E : XK} {x m : Str} {p pos apos : Pos} {o e : Expr} {es : List Expr} {kws : List Keyword} {ta : TE} {t tk : TA} {g : List Value → List Value → List Value} {gV : List V → List V → List V}
theorem run_fnN {pins : List (Addr × Obj)} {σ : L2.St} {H : Hp} {s : Shared} {Q : VK} {us ws : List Value} {vs zs : List V} (F : FnOk X.prog X.w X.K X.mg X.base CX k f fd ps sp) (hr : Room k X.A) (hb : KBn X.K fd ps n ks g gV) (hx : Passes CX X E)
    (I : Inv X pins σ H s) (r : Vals vs us) (rz : Vals zs ws) (l1 : vs.length = n) (l2 : zs.length = ks.length) (h : sp (gV vs zs) H Q E) : wpAny (model X.prog X.w) X.A (call (.ref f) us (ks.zip ws)) (EP X pins σ Q) X.xe s := by
  have r2 := hb.rel r rz
  refine wpAny_call (codeAny_mono (F.run X.A X.stack s H ⟨us, ks.zip ws⟩ (g us ws) (gV vs zs) Q E hr I.env0 (hb.to s us ws I.kIn (r.length.symm.trans l1) (rz.length.symm.trans l2)) r2 h) fun r s' hq => ?_)
  cases r with
  | error e => exact hx pins σ H s e s' I hq
  | ok fl =>
    cases fl with
    | ret u => exact I.after hq
    | next => exact False.elim hq
    | brk => exact False.elim hq
    | cont => exact False.elim hq
/-- f(k = v, ..) -/
theorem pe_callK0 (F : FnOk X.prog X.w X.K X.mg X.base CX k f fd ps sp) (hr : Room k X.A) (hg : Gl X x) (hm : X.mg x = some (.ref f)) (hk : PySem.W.keepIn X.K (.ref f) = true) (hb : KBn X.K fd ps 0 ks g gV) (hx : Passes CX X E) (hkw : PK X kws tk)
    (hall : (backToKw pos (keywordEach kws X.env)).all (·.1.isSome) = true := by rfl) (hks : (backToKw pos (keywordEach kws X.env)).filterMap (·.1) = ks := by rfl) (hdb : (x == ("__debug__" : Str)) = false := by decide)
    (hpl : ((backTo pos (starEach [] X.env)).any (·.1) || (backToKw pos (keywordEach kws X.env)).any (·.1.isNone)) = false := by rfl) :
    PE X (.Call (.Name x p) [] kws pos) (tCallKN 0 ks.length sp gV E tNil tk) := by
  refine ⟨fun pins s σ H Q I h => ?_⟩
  refine wpAny_Call_Name_kw (ld_glob I hg hm ?_ hdb)
  refine PySem.W.callWith_KW0 (h₀ := X.base) I.ok.mod.kin hk hall ?_ hpl
  refine thn (hkw.run pos pins s σ H _ I h) fun ws s2 ⟨zs, H2, I2, rz, l1, l2, q2⟩ => ⟨I2.kIn, ?_⟩
  rw [hks]
  exact run_fnN (us := []) (vs := []) F hr hb hx I2 .nil rz rfl l2 q2
/-- o.m(k = v, ..) -/
theorem pe_methK0 {pl : Sem Bool} (he : PE X o ta) (c : Cls X.K C) (hm : Meth X.K C m f) (F : FnOk X.prog X.w X.K X.mg X.base CX k f fd ps sp) (hr : Room k X.A) (hb : KBn X.K fd ps 1 ks g gV) (hx : Passes CX X E) (hkw : PK X kws tk)
    (hall : (backToKw pos (keywordEach kws X.env)).all (·.1.isSome) = true := by rfl) (hks : (backToKw pos (keywordEach kws X.env)).filterMap (·.1) = ks := by rfl)
    (hpl : ((backTo pos (starEach [] X.env)).any (·.1) || (backToKw pos (keywordEach kws X.env)).any (·.1.isNone)) = false := by rfl)
    (ht : eval (.Call (.Attribute o m apos) [] kws pos) X.env = (do
      let ov ← eval o X.env
      standAt apos.atName
      let (f, first) ← holding [ov] (getMethod ov m pl)
      callWith pos f first (backTo pos (starEach [] X.env)) (backToKw pos (keywordEach kws X.env))) := by rfl) :
    PE X (.Call (.Attribute o m apos) [] kws pos) (tMethK C m 0 ks.length sp gV E ta tNil tk) := by
  refine ⟨fun pins s σ H Q I h => ?_⟩
  refine PySem.W.methodCall_KW (pl := pl) (thn (he.run pins s σ H _ I h) fun u s1 ⟨x, H1, I1, rx, a, dx, fs, ex, ea, l, q⟩ => ?_) ht
  subst ex
  obtain rfl : u = Value.ref a := rx
  refine getmeth_ok I1 ea c hm l ?_
  refine PySem.W.callWith_KW0 (first := [.ref a]) (h₀ := X.base) I.ok.mod.kin hm.kp hall ?_ hpl
  refine thn (hkw.run pos pins s1 σ H1 _ I1 q) fun ws s2 ⟨zs, H2, I2, rz, l1, l2, q2⟩ => ⟨I2.kIn, ?_⟩
  rw [hks]
  exact run_fnN (us := [.ref a]) (vs := [.ref a]) F hr hb hx I2 (.cons rfl .nil) rz rfl l2 q2
/-- f(e, ..), f an instance of the class at C -/
def tCallI (C : Addr) (sp : Sp) (dvs : List V) (E : XK) (tf : TE) (t : TA) : TE := fun σ H Q => tf σ H fun y H1 => ∃ a, y = V.ref a ∧ t σ H1 fun vs H2 => ∃ dx fs, H2 a = some (.ins C dx fs) ∧ sp (V.ref a :: (vs ++ dvs)) H2 Q E
theorem pe_callI {fe : Expr} {tf : TE} {dvs : List V} {ds : List Value} (hf : PE X fe tf) (c : StX.CallO X.K C f) (F : FnOk X.prog X.w X.K X.mg X.base CX k f fd ps sp) (hr : Room k X.A) (hb : Binds X.K fd ps ds) (hd : Vals dvs ds) (hx : Passes CX X E) (ha : PA X (e :: es) t)
    (ht : eval (.Call fe (e :: es) [] pos) X.env = (do callWith pos (← eval fe X.env) [] (backTo pos (starEach (e :: es) X.env)) (backToKw pos (keywordEach [] X.env))) := by rfl)
    (he : starEach (e :: es) X.env = (false, eval e X.env) :: starEach es X.env := by rfl) (hpl : (backTo pos (starEach es X.env)).any (·.1) = false := by rfl) : PE X (.Call fe (e :: es) [] pos) (tCallI C sp dvs E tf t) := by
  refine ⟨fun pins s σ H Q I h => ?_⟩
  refine Call_ (thn (hf.run pins s σ H _ I h) fun u s1 ⟨y, H1, I1, ry, a, ey, q⟩ => ?_) ht
  subst ey
  obtain rfl : u = Value.ref a := ry
  refine StX.callO_with (thn (ha.run pos pins s1 σ H1 _ I1 q) fun us s2 ⟨vs, H2, I2, r, dx, fs, hi, q2⟩ => ?_) he hpl
  obtain ⟨ox, od, J, hdt⟩ := StX.insC_at I2 (.inr ⟨dx, fs, hi⟩)
  exact ⟨⟨C, ox, od, J, hdt⟩, StX.run_callO c (F.raw hb hd) hr hx I2 (.inr ⟨dx, fs, hi⟩) r q2⟩
end
/-! ### the rules whose readings name the written part, with it told (for a comprehension's block) -/
section
variable {X : Cx} (K : PySem.W.Frag)
theorem ixT (h : X.K = K := by rfl) : IxR X (rIxT K) := h ▸ ix_tup
theorem ixL (h : X.K = K := by rfl) : IxR X (rIxL K) := h ▸ ix_list
theorem cIsi (h : X.K = K := by rfl) : CallR X (.builtin "isinstance") (rIsi K) := h ▸ call_isi
theorem opEqD (hu : X.A.units + 64 < cLine) (h : X.K = K := by rfl) : OpR X (compareOp .Eq) (rEqD K) := h ▸ op_eqD hu
theorem opNeD (hu : X.A.units + 64 < cLine) (h : X.K = K := by rfl) : OpR X (compareOp .NotEq) (rNeD K) := h ▸ op_neD hu
theorem peFld {e : Expr} {f : Str} {pos : Pos} {ta : TE} (he : PE X e ta) (hb : attributeBase e f X.env (eval e X.env) = eval e X.env := by rfl) (h : X.K = K := by rfl) : PE X (.Attribute e f pos) (tFld K ta f) := h ▸ pe_fld he hb
theorem opOwnEq {CX : CXT} {n : Nat} {C g : Addr} {fd : FuncData} {ps : List Str} {sp : Sp} {E : XK} (F : FnOk X.prog X.w X.K X.mg X.base CX n g fd ps sp) (hb : Binds X.K fd ps []) (hs : PySem.W.findIn X.K (.ref C) "__eq__" = some (some (.ref g)))
    (hf : PySem.W.isFn X.K (.ref g) = true) (hr : Room n X.A) (hx : Passes CX X E) (h : X.K = K := by rfl) : OpR X (compareOp .Eq) (rOwnEq K C sp E) := h ▸ op_ownEq F hb hs hf hr hx
theorem piList {tg l : Expr} {tl : TE} (hl : PE X l tl) (h : X.K = K := by rfl) : PI X tg l (iList K tl) := h ▸ pi_list hl
theorem piTup {tg l : Expr} {tl : TE} (hl : PE X l tl) (h : X.K = K := by rfl) : PI X tg l (iTup K tl) := h ▸ pi_tup hl
theorem pgTup (n : Nat) {es : List Expr} {k : Nat} {t : TGs} {pos : Pos} (hc : X.calm = true) (hh : PGs X es t)
    (hn : (assignEach es X.env).length = n := by rfl) (hst : (assignEach es X.env).findIdx? (·.1) = none := by rfl) (h : X.K = K := by rfl) : PG X (.Tuple es k pos) (gTup K n t) := h ▸ pg_tup hc hh hn hst
end
end WL
namespace WM
/-! ### fractions: core Rat -/
theorem gcd_pos {t b : Int} (hb : b ≠ 0) : 0 < b.gcd t := Int.gcd_pos_of_ne_zero_left _ hb
theorem fdiv_pos' {a : Int} {g : Nat} (hg : 0 < g) : a.fdiv (g : Int) = a / (g : Int) := Int.fdiv_eq_ediv_of_nonneg _ (by omega)
theorem fdiv_dvd {a k g : Int} (hg : g ≠ 0) (h : a = g * k) : a.fdiv g = k := by
  subst h
  rw [Int.mul_comm]
  exact Int.mul_fdiv_cancel _ hg
theorem ediv_dvd {a k g : Int} (hg : g ≠ 0) (h : a = g * k) : a / g = k := by
  subst h
  exact Int.mul_ediv_cancel_left _ hg
/-- what Number keeps above the stroke -/
theorem make_num {t b : Int} {g : Nat} (hb : b ≠ 0) (e : g = Nat.gcd t.natAbs b.natAbs) : t.fdiv (if b < 0 then -(g : Int) else (g : Int)) = (Rat.divInt t b).num := by
  have eg : b.gcd t = g := by rw [e, Int.gcd, Nat.gcd_comm]
  have hg : 0 < g := eg ▸ gcd_pos hb
  rw [Rat.num_divInt, eg]
  have hd : (g : Int) ∣ t := by rw [← eg]; exact Int.gcd_dvd_right ..
  obtain ⟨k, hk⟩ := hd
  have hg' : (g : Int) ≠ 0 := by omega
  by_cases hn : b < 0
  · rw [if_pos hn, Int.sign_eq_neg_one_of_neg hn, fdiv_dvd (k := -k) (by omega) (by rw [hk, Int.neg_mul_neg]), ediv_dvd (k := -k) hg' (by rw [hk, Int.neg_one_mul, Int.mul_neg])]
  · rw [if_neg hn, Int.sign_eq_one_of_pos (by omega), fdiv_dvd hg' hk, ediv_dvd (k := k) hg' (by rw [hk, Int.one_mul])]
theorem make_den {t b : Int} {g : Nat} (hb : b ≠ 0) (e : g = Nat.gcd t.natAbs b.natAbs) : b.fdiv (if b < 0 then -(g : Int) else (g : Int)) = ((Rat.divInt t b).den : Int) := by
  have eg : b.gcd t = g := by rw [e, Int.gcd, Nat.gcd_comm]
  have hg : 0 < g := eg ▸ gcd_pos hb
  rw [Rat.den_divInt, if_neg hb, eg]
  have hd : (g : Int) ∣ b := by rw [← eg]; exact Int.gcd_dvd_left ..
  obtain ⟨k, hk⟩ := hd
  have hg' : (g : Int) ≠ 0 := by omega
  have h2 : b.natAbs / g = k.natAbs := by
    rw [hk, Int.natAbs_mul, Int.natAbs_natCast]
    exact Nat.mul_div_cancel_left _ hg
  have hp : 0 < (g : Int) := by omega
  rw [h2]
  by_cases hn : b < 0
  · rw [if_pos hn, fdiv_dvd (k := -k) (by omega) (by rw [hk, Int.neg_mul_neg])]
    have : k < 0 := by
      rcases Int.lt_or_le k 0 with h | h
      · exact h
      · have := Int.mul_nonneg (Int.le_of_lt hp) h
        omega
    omega
  · rw [if_neg hn, fdiv_dvd hg' hk]
    have : 0 ≤ k := by
      rcases Int.lt_or_le k 0 with h | h
      · have := Int.mul_neg_of_pos_of_neg hp h
        omega
      · exact h
    omega
/-- what a law's own reduction gives: sign * t // g, |b| // g -/
theorem least_num {t b : Int} {g : Nat} (hb : b ≠ 0) (e : g = Nat.gcd t.natAbs b.natAbs) : ((if b < 0 then -1 else 1) * t).fdiv (g : Int) = (Rat.divInt t b).num := by
  have eg : b.gcd t = g := by rw [e, Int.gcd, Nat.gcd_comm]
  have hg : 0 < g := eg ▸ gcd_pos hb
  rw [Rat.num_divInt, eg, fdiv_pos' hg]
  by_cases hn : b < 0
  · rw [if_pos hn, Int.sign_eq_neg_one_of_neg hn]
  · rw [if_neg hn, Int.sign_eq_one_of_pos (by omega)]
theorem least_den {t b : Int} {g : Nat} (hb : b ≠ 0) (e : g = Nat.gcd t.natAbs b.natAbs) : (if b < 0 then -b else b).fdiv (g : Int) = ((Rat.divInt t b).den : Int) := by
  have eg : b.gcd t = g := by rw [e, Int.gcd, Nat.gcd_comm]
  have hg : 0 < g := eg ▸ gcd_pos hb
  rw [Rat.den_divInt, if_neg hb, eg, fdiv_pos' hg]
  have : (if b < 0 then -b else b) = (b.natAbs : Int) := by split <;> omega
  rw [this]
  rfl
theorem gcd_ne {t b : Int} {g : Nat} (hb : b ≠ 0) (e : g = Nat.gcd t.natAbs b.natAbs) : 0 < g := by
  have eg : b.gcd t = g := by rw [e, Int.gcd, Nat.gcd_comm]
  exact eg ▸ gcd_pos hb
theorem gcd_le {t b : Int} {g : Nat} (hb : b ≠ 0) (e : g = Nat.gcd t.natAbs b.natAbs) : g ≤ b.natAbs := by
  rw [e]
  exact Nat.gcd_le_right _ (by omega)
/-! ### sizes -/
def Bd (n : Nat) (q : Rat) : Prop := q.num.natAbs < 2 ^ n ∧ q.den < 2 ^ n
theorem two_le {m n : Nat} (h : m ≤ n) : 2 ^ m ≤ 2 ^ n := Nat.pow_le_pow_right (by decide) h
theorem Bd.mono {m n : Nat} {q : Rat} (h : Bd m q) (l : m ≤ n) : Bd n q := ⟨Nat.lt_of_lt_of_le h.1 (two_le l), Nat.lt_of_lt_of_le h.2 (two_le l)⟩
theorem den_ne (q : Rat) : (q.den : Int) ≠ 0 := by have := q.den_pos; omega
theorem den_pos' (q : Rat) : 0 < (q.den : Int) := by have := q.den_pos; omega
theorem Bd.mk' {n : Nat} {t b : Int} (hb : b ≠ 0) (h1 : t.natAbs < 2 ^ n) (h2 : b.natAbs < 2 ^ n) : Bd n (Rat.divInt t b) := by
  refine ⟨?_, ?_⟩
  · rw [Rat.num_divInt]
    refine Nat.lt_of_le_of_lt ?_ h1
    have hg : 0 < b.gcd t := gcd_pos hb
    have hd : ((b.gcd t : Nat) : Int) ∣ b.sign * t := Int.dvd_mul_of_dvd_right (Int.gcd_dvd_right ..)
    obtain ⟨k, hk⟩ := hd
    rw [ediv_dvd (k := k) (by omega) hk]
    have h3 : (b.sign * t).natAbs = t.natAbs := by
      rw [Int.natAbs_mul, Int.natAbs_sign_of_ne_zero hb, Nat.one_mul]
    have h4 : (b.sign * t).natAbs = b.gcd t * k.natAbs := by rw [hk, Int.natAbs_mul, Int.natAbs_natCast]
    rw [← h3, h4]
    exact Nat.le_mul_of_pos_left _ hg
  · rw [Rat.den_divInt, if_neg hb]
    exact Nat.lt_of_le_of_lt (Nat.div_le_self _ _) h2
theorem add_eq (p q : Rat) : Rat.divInt (p.num * q.den + q.num * p.den) (p.den * q.den) = p + q := by
  conv => rhs; rw [← Rat.num_divInt_den p, ← Rat.num_divInt_den q]
  rw [Rat.divInt_add_divInt _ _ (den_ne p) (den_ne q)]
theorem sub_eq (p q : Rat) : Rat.divInt (p.num * q.den - q.num * p.den) (p.den * q.den) = p - q := by
  conv => rhs; rw [← Rat.num_divInt_den p, ← Rat.num_divInt_den q]
  rw [Rat.divInt_sub_divInt _ _ (den_ne p) (den_ne q)]
theorem mul_eq (p q : Rat) : Rat.divInt (p.num * q.num) (p.den * q.den) = p * q := by
  conv => rhs; rw [← Rat.num_divInt_den p, ← Rat.num_divInt_den q]
  rw [Rat.divInt_mul_divInt]
theorem div_eq (p q : Rat) : Rat.divInt (p.num * q.den) (p.den * q.num) = p / q := by
  rw [Rat.div_def, Rat.inv_def]
  conv => rhs; rw [← Rat.num_divInt_den p]
  rw [Rat.divInt_mul_divInt]
theorem neg_eq (p : Rat) : Rat.divInt (-p.num) p.den = -p := by
  conv => rhs; rw [← Rat.num_divInt_den p]
  rw [Rat.neg_divInt]
theorem mul_lt {a b m n : Nat} (ha : a < 2 ^ m) (hb : b < 2 ^ n) : a * b < 2 ^ (m + n) := by
  rw [Nat.pow_add]
  exact Nat.mul_lt_mul'' ha hb
theorem imul_lt {a b : Int} {m n : Nat} (ha : a.natAbs < 2 ^ m) (hb : b.natAbs < 2 ^ n) : (a * b).natAbs < 2 ^ (m + n) := by
  rw [Int.natAbs_mul]
  exact mul_lt ha hb
theorem iadd_lt {a b : Int} {n : Nat} (ha : a.natAbs < 2 ^ n) (hb : b.natAbs < 2 ^ n) : (a + b).natAbs < 2 ^ (n + 1) := by
  have : (a + b).natAbs ≤ a.natAbs + b.natAbs := Int.natAbs_add_le a b
  rw [Nat.pow_succ]
  omega
theorem isub_lt {a b : Int} {n : Nat} (ha : a.natAbs < 2 ^ n) (hb : b.natAbs < 2 ^ n) : (a - b).natAbs < 2 ^ (n + 1) := by
  have : (a - b).natAbs ≤ a.natAbs + b.natAbs := by omega
  rw [Nat.pow_succ]
  omega
theorem up_lt {a m n : Nat} (h : a < 2 ^ m) (l : m ≤ n) : a < 2 ^ n := Nat.lt_of_lt_of_le h (two_le l)
theorem Bd.den' {n : Nat} {q : Rat} (h : Bd n q) : ((q.den : Int)).natAbs < 2 ^ n := by rw [Int.natAbs_natCast]; exact h.2
theorem Bd.add {m n : Nat} {p q : Rat} (h : Bd m p) (k : Bd n q) : Bd (m + n + 1) (p + q) := by
  rw [← add_eq]
  refine Bd.mk' (Int.mul_ne_zero (den_ne p) (den_ne q)) (iadd_lt (imul_lt h.1 k.den') (up_lt (imul_lt k.1 h.den') (by omega))) (up_lt (imul_lt h.den' k.den') (by omega))
theorem Bd.sub {m n : Nat} {p q : Rat} (h : Bd m p) (k : Bd n q) : Bd (m + n + 1) (p - q) := by
  rw [← sub_eq]
  refine Bd.mk' (Int.mul_ne_zero (den_ne p) (den_ne q)) (isub_lt (imul_lt h.1 k.den') (up_lt (imul_lt k.1 h.den') (by omega))) (up_lt (imul_lt h.den' k.den') (by omega))
theorem Bd.mul {m n : Nat} {p q : Rat} (h : Bd m p) (k : Bd n q) : Bd (m + n) (p * q) := by
  rw [← mul_eq]
  exact Bd.mk' (Int.mul_ne_zero (den_ne p) (den_ne q)) (imul_lt h.1 k.1) (imul_lt h.den' k.den')
theorem num_ne {q : Rat} (h : q ≠ 0) : q.num ≠ 0 := fun e => h (Rat.num_eq_zero.mp e)
theorem Bd.div {m n : Nat} {p q : Rat} (h : Bd m p) (k : Bd n q) (hq : q ≠ 0) : Bd (m + n) (p / q) := by
  rw [← div_eq]
  exact Bd.mk' (Int.mul_ne_zero (den_ne p) (num_ne hq)) (imul_lt h.1 k.den') (imul_lt h.den' k.1)
theorem Bd.neg {m : Nat} {p : Rat} (h : Bd m p) : Bd m (-p) := by
  refine ⟨?_, ?_⟩
  · rw [show (-p).num = -p.num from rfl, Int.natAbs_neg]; exact h.1
  · rw [show (-p).den = p.den from rfl]; exact h.2
theorem log2_lt {a n : Nat} (h0 : 0 < n) (h : a < 2 ^ n) : a.log2 < n := by
  by_cases ha : a = 0
  · subst ha; rw [Nat.log2_zero]; exact h0
  · exact (Nat.log2_lt ha).mpr h
/-- equal fractions: the same above and below -/
theorem eq_iff (p q : Rat) : p = q ↔ p.num = q.num ∧ p.den = q.den := ⟨fun e => by rw [e]; exact ⟨rfl, rfl⟩, fun ⟨a, b⟩ => Rat.ext a b⟩
end WM
namespace Q
open PySem PySem.Spec PyProof.Rows L2 WL WM
def top (i : Nat) : Stmt := PySem.Challenge.pw_whatspeed_k06_where_lines_meet.main.body.getD i (.Pass ⟨0, 0, 0, 0⟩)
abbrev s_is_integer : Stmt := top 5
abbrev N_is_integer : List Str := ["value"]
theorem sc_is_integer : FnScope ["value"] ["value"] (defScope s_is_integer) := ⟨rfl, rfl, rfl, by decide +kernel, rfl, by decide +kernel, by decide +kernel⟩
abbrev s_shared_divisor : Stmt := top 7
abbrev N_shared_divisor : List Str := ["one", "other"]
theorem sc_shared_divisor : FnScope ["one", "other"] ["one", "other"] (defScope s_shared_divisor) := ⟨rfl, rfl, rfl, by decide +kernel, rfl, by decide +kernel, by decide +kernel⟩
abbrev s_Number_init : Stmt := inClass (top 8) 0
abbrev N_Number_init : List Str := ["self", "top", "bottom", "shared"]
theorem sc_Number_init : FnScope ["self", "top", "bottom", "shared"] ["self", "top", "bottom"] (defScope s_Number_init) := ⟨rfl, rfl, rfl, by decide +kernel, rfl, by decide +kernel, by decide +kernel⟩
abbrev s_Number_top : Stmt := inClass (top 8) 1
abbrev N_Number_top : List Str := ["self"]
theorem sc_Number_top : FnScope ["self"] ["self"] (defScope s_Number_top) := ⟨rfl, rfl, rfl, by decide +kernel, rfl, by decide +kernel, by decide +kernel⟩
abbrev s_Number_bottom : Stmt := inClass (top 8) 2
abbrev N_Number_bottom : List Str := ["self"]
theorem sc_Number_bottom : FnScope ["self"] ["self"] (defScope s_Number_bottom) := ⟨rfl, rfl, rfl, by decide +kernel, rfl, by decide +kernel, by decide +kernel⟩
abbrev s_Number_eq : Stmt := inClass (top 8) 3
abbrev N_Number_eq : List Str := ["self", "other"]
theorem sc_Number_eq : FnScope ["self", "other"] ["self", "other"] (defScope s_Number_eq) := ⟨rfl, rfl, rfl, by decide +kernel, rfl, by decide +kernel, by decide +kernel⟩
abbrev s_Number_add : Stmt := inClass (top 8) 5
abbrev N_Number_add : List Str := ["self", "other", "top"]
theorem sc_Number_add : FnScope ["self", "other", "top"] ["self", "other"] (defScope s_Number_add) := ⟨rfl, rfl, rfl, by decide +kernel, rfl, by decide +kernel, by decide +kernel⟩
abbrev s_Number_sub : Stmt := inClass (top 8) 6
abbrev N_Number_sub : List Str := ["self", "other", "top"]
theorem sc_Number_sub : FnScope ["self", "other", "top"] ["self", "other"] (defScope s_Number_sub) := ⟨rfl, rfl, rfl, by decide +kernel, rfl, by decide +kernel, by decide +kernel⟩
abbrev s_Number_mul : Stmt := inClass (top 8) 7
abbrev N_Number_mul : List Str := ["self", "other"]
theorem sc_Number_mul : FnScope ["self", "other"] ["self", "other"] (defScope s_Number_mul) := ⟨rfl, rfl, rfl, by decide +kernel, rfl, by decide +kernel, by decide +kernel⟩
abbrev s_Number_divided_by : Stmt := inClass (top 8) 8
abbrev N_Number_divided_by : List Str := ["self", "other"]
theorem sc_Number_divided_by : FnScope ["self", "other"] ["self", "other"] (defScope s_Number_divided_by) := ⟨rfl, rfl, rfl, by decide +kernel, rfl, by decide +kernel, by decide +kernel⟩
abbrev s_Line_init : Stmt := inClass (top 9) 0
abbrev N_Line_init : List Str := ["self", "base", "slope"]
theorem sc_Line_init : FnScope ["self", "base", "slope"] ["self", "base", "slope"] (defScope s_Line_init) := ⟨rfl, rfl, rfl, by decide +kernel, rfl, by decide +kernel, by decide +kernel⟩
abbrev s_Line_call : Stmt := inClass (top 9) 3
abbrev N_Line_call : List Str := ["self", "s"]
theorem sc_Line_call : FnScope ["self", "s"] ["self", "s"] (defScope s_Line_call) := ⟨rfl, rfl, rfl, by decide +kernel, rfl, by decide +kernel, by decide +kernel⟩
abbrev s_Line_meets : Stmt := inClass (top 9) 7
abbrev N_Line_meets : List Str := ["self", "other"]
theorem sc_Line_meets : FnScope ["self", "other"] ["self", "other"] (defScope s_Line_meets) := ⟨rfl, rfl, rfl, by decide +kernel, rfl, by decide +kernel, by decide +kernel⟩
abbrev s_law_pot : Stmt := top 11
abbrev N_law_pot : List Str := ["script", "k", "cell", "own"]
theorem sc_law_pot : FnScope ["script", "k", "cell", "own"] ["script", "k"] (defScope s_law_pot) := ⟨rfl, rfl, rfl, by decide +kernel, rfl, by decide +kernel, by decide +kernel⟩
abbrev s_law_take : Stmt := top 12
abbrev N_law_take : List Str := ["pot", "upto", "digit", "prime", "mixed"]
theorem sc_law_take : FnScope ["pot", "upto", "digit", "prime", "mixed"] ["pot", "upto"] (defScope s_law_take) := ⟨rfl, rfl, rfl, by decide +kernel, rfl, by decide +kernel, by decide +kernel⟩
abbrev s_law_of : Stmt := top 13
abbrev N_law_of : List Str := ["pot", "some"]
theorem sc_law_of : FnScope ["pot", "some"] ["pot", "some"] (defScope s_law_of) := ⟨rfl, rfl, rfl, by decide +kernel, rfl, by decide +kernel, by decide +kernel⟩
abbrev s_law_drawn : Stmt := top 14
abbrev N_law_drawn : List Str := ["pot", "top"]
theorem sc_law_drawn : FnScope ["pot", "top"] ["pot"] (defScope s_law_drawn) := ⟨rfl, rfl, rfl, by decide +kernel, rfl, by decide +kernel, by decide +kernel⟩
abbrev s_law_number : Stmt := top 15
abbrev N_law_number : List Str := ["pair"]
theorem sc_law_number : FnScope ["pair"] ["pair"] (defScope s_law_number) := ⟨rfl, rfl, rfl, by decide +kernel, rfl, by decide +kernel, by decide +kernel⟩
abbrev s_law_least : Stmt := top 16
abbrev N_law_least : List Str := ["above", "below", "one", "rest", "sign"]
theorem sc_law_least : FnScope ["above", "below", "one", "rest", "sign"] ["above", "below"] (defScope s_law_least) := ⟨rfl, rfl, rfl, by decide +kernel, rfl, by decide +kernel, by decide +kernel⟩
abbrev s_law_due : Stmt := top 17
abbrev N_law_due : List Str := ["a", "b", "c", "d", "above", "below", "under", "over"]
theorem sc_law_due : FnScope ["a", "b", "c", "d", "above", "below", "under", "over"] ["a", "b", "c", "d"] (defScope s_law_due) := ⟨rfl, rfl, rfl, by decide +kernel, rfl, by decide +kernel, by decide +kernel⟩
abbrev s_law_is_right : Stmt := top 18
abbrev N_law_is_right : List Str := ["pot", "a", "b", "c", "d", "way", "first", "mate", "due", "found", "s", "spots", "k", "told", "one", "two"]
theorem sc_law_is_right : FnScope ["pot", "a", "b", "c", "d", "way", "first", "mate", "due", "found", "s", "spots", "k", "told", "one", "two"] ["pot"] (defScope s_law_is_right) := ⟨rfl, rfl, rfl, by decide +kernel, rfl, by decide +kernel, by decide +kernel⟩
abbrev s_law : Stmt := top 19
abbrev N_law : List Str := ["script", "k", "pot", "turn"]
theorem sc_law : FnScope ["script", "k", "pot", "turn"] ["script"] (defScope s_law) := ⟨rfl, rfl, rfl, by decide +kernel, rfl, by decide +kernel, by decide +kernel⟩
structure Ad where
  c_Number : Addr
  c_Line : Addr
  f_is_integer : Addr
  d_is_integer : FuncData
  f_shared_divisor : Addr
  d_shared_divisor : FuncData
  f_Number_init : Addr
  d_Number_init : FuncData
  f_Number_top : Addr
  d_Number_top : FuncData
  p_Number_top : Addr
  f_Number_bottom : Addr
  d_Number_bottom : FuncData
  p_Number_bottom : Addr
  f_Number_eq : Addr
  d_Number_eq : FuncData
  f_Number_add : Addr
  d_Number_add : FuncData
  f_Number_sub : Addr
  d_Number_sub : FuncData
  f_Number_mul : Addr
  d_Number_mul : FuncData
  f_Number_divided_by : Addr
  d_Number_divided_by : FuncData
  f_Line_init : Addr
  d_Line_init : FuncData
  f_Line_call : Addr
  d_Line_call : FuncData
  f_Line_meets : Addr
  d_Line_meets : FuncData
  f_law_pot : Addr
  d_law_pot : FuncData
  f_law_take : Addr
  d_law_take : FuncData
  f_law_of : Addr
  d_law_of : FuncData
  f_law_drawn : Addr
  d_law_drawn : FuncData
  f_law_number : Addr
  d_law_number : FuncData
  f_law_least : Addr
  d_law_least : FuncData
  f_law_due : Addr
  d_law_due : FuncData
  f_law_is_right : Addr
  d_law_is_right : FuncData
  f_law : Addr
  d_law : FuncData
structure Txt (K : PySem.W.Frag) (mg : Str → Option Value) (A : Ad) : Prop where
  g_Number : mg "Number" = some (.ref A.c_Number)
  cl_Number : Cls K A.c_Number
  M_Number : Mk K A.c_Number A.f_Number_init
  sf_Number : PySem.W.selfFirst K A.c_Number = true
  ca_Number : PySem.W.findIn K (.ref A.c_Number) "__class__" = some (some (.builtin "object.__class__"))
  cm_Number : PySem.W.mroIn K A.c_Number (.type "object") = some true
  n_Number_own_top : NoAttr K A.c_Number "own_top"
  n_Number_own_bottom : NoAttr K A.c_Number "own_bottom"
  g_Line : mg "Line" = some (.ref A.c_Line)
  cl_Line : Cls K A.c_Line
  M_Line : Mk K A.c_Line A.f_Line_init
  sf_Line : PySem.W.selfFirst K A.c_Line = true
  ca_Line : PySem.W.findIn K (.ref A.c_Line) "__class__" = some (some (.builtin "object.__class__"))
  cm_Line : PySem.W.mroIn K A.c_Line (.type "object") = some true
  n_Line_own_base : NoAttr K A.c_Line "own_base"
  n_Line_own_slope : NoAttr K A.c_Line "own_slope"
  cn : PySem.W.specialIn K (.builtin "object.__class__") "__get__" = some (some (.builtin "getset_descriptor.__get__"))
  ct : PySem.W.takesIn K (.builtin "object.__class__") = some true
  g_is_integer : mg "is_integer" = some (.ref A.f_is_integer)
  F_is_integer : Fun K "is_integer" "is_integer" s_is_integer A.f_is_integer A.d_is_integer
  b_is_integer : Binds K A.d_is_integer ["value"] []
  g_shared_divisor : mg "shared_divisor" = some (.ref A.f_shared_divisor)
  F_shared_divisor : Fun K "shared_divisor" "shared_divisor" s_shared_divisor A.f_shared_divisor A.d_shared_divisor
  b_shared_divisor : Binds K A.d_shared_divisor ["one", "other"] []
  m_Number_init : Meth K A.c_Number "__init__" A.f_Number_init
  F_Number_init : FunD K "__init__" "Number.__init__" (defArgs s_Number_init) (defBody s_Number_init) (defScope s_Number_init) [.int 1] [] A.f_Number_init A.d_Number_init
  P_Number_top : PropOf K A.c_Number "top" A.p_Number_top A.f_Number_top
  F_Number_top : Fun K "top" "Number.top" s_Number_top A.f_Number_top A.d_Number_top
  b_Number_top : Binds K A.d_Number_top ["self"] []
  P_Number_bottom : PropOf K A.c_Number "bottom" A.p_Number_bottom A.f_Number_bottom
  F_Number_bottom : Fun K "bottom" "Number.bottom" s_Number_bottom A.f_Number_bottom A.d_Number_bottom
  b_Number_bottom : Binds K A.d_Number_bottom ["self"] []
  m_Number_eq : Meth K A.c_Number "__eq__" A.f_Number_eq
  F_Number_eq : Fun K "__eq__" "Number.__eq__" s_Number_eq A.f_Number_eq A.d_Number_eq
  b_Number_eq : Binds K A.d_Number_eq ["self", "other"] []
  m_Number_add : Meth K A.c_Number "__add__" A.f_Number_add
  F_Number_add : Fun K "__add__" "Number.__add__" s_Number_add A.f_Number_add A.d_Number_add
  b_Number_add : Binds K A.d_Number_add ["self", "other"] []
  m_Number_sub : Meth K A.c_Number "__sub__" A.f_Number_sub
  F_Number_sub : Fun K "__sub__" "Number.__sub__" s_Number_sub A.f_Number_sub A.d_Number_sub
  b_Number_sub : Binds K A.d_Number_sub ["self", "other"] []
  m_Number_mul : Meth K A.c_Number "__mul__" A.f_Number_mul
  F_Number_mul : Fun K "__mul__" "Number.__mul__" s_Number_mul A.f_Number_mul A.d_Number_mul
  b_Number_mul : Binds K A.d_Number_mul ["self", "other"] []
  m_Number_divided_by : Meth K A.c_Number "divided_by" A.f_Number_divided_by
  F_Number_divided_by : Fun K "divided_by" "Number.divided_by" s_Number_divided_by A.f_Number_divided_by A.d_Number_divided_by
  b_Number_divided_by : Binds K A.d_Number_divided_by ["self", "other"] []
  m_Line_init : Meth K A.c_Line "__init__" A.f_Line_init
  F_Line_init : Fun K "__init__" "Line.__init__" s_Line_init A.f_Line_init A.d_Line_init
  b_Line_init : Binds K A.d_Line_init ["self", "base", "slope"] []
  m_Line_call : Meth K A.c_Line "__call__" A.f_Line_call
  co_Line_call : StX.CallO K A.c_Line A.f_Line_call
  F_Line_call : Fun K "__call__" "Line.__call__" s_Line_call A.f_Line_call A.d_Line_call
  b_Line_call : Binds K A.d_Line_call ["self", "s"] []
  m_Line_meets : Meth K A.c_Line "meets" A.f_Line_meets
  F_Line_meets : Fun K "meets" "Line.meets" s_Line_meets A.f_Line_meets A.d_Line_meets
  b_Line_meets : Binds K A.d_Line_meets ["self", "other"] []
  g_law_pot : mg "_law_pot" = some (.ref A.f_law_pot)
  F_law_pot : Fun K "_law_pot" "_law_pot" s_law_pot A.f_law_pot A.d_law_pot
  b_law_pot : Binds K A.d_law_pot ["script", "k"] []
  g_law_take : mg "_law_take" = some (.ref A.f_law_take)
  F_law_take : Fun K "_law_take" "_law_take" s_law_take A.f_law_take A.d_law_take
  b_law_take : Binds K A.d_law_take ["pot", "upto"] []
  g_law_of : mg "_law_of" = some (.ref A.f_law_of)
  F_law_of : Fun K "_law_of" "_law_of" s_law_of A.f_law_of A.d_law_of
  b_law_of : Binds K A.d_law_of ["pot", "some"] []
  g_law_drawn : mg "_law_drawn" = some (.ref A.f_law_drawn)
  F_law_drawn : Fun K "_law_drawn" "_law_drawn" s_law_drawn A.f_law_drawn A.d_law_drawn
  b_law_drawn : Binds K A.d_law_drawn ["pot"] []
  g_law_number : mg "_law_number" = some (.ref A.f_law_number)
  F_law_number : Fun K "_law_number" "_law_number" s_law_number A.f_law_number A.d_law_number
  b_law_number : Binds K A.d_law_number ["pair"] []
  g_law_least : mg "_law_least" = some (.ref A.f_law_least)
  F_law_least : Fun K "_law_least" "_law_least" s_law_least A.f_law_least A.d_law_least
  b_law_least : Binds K A.d_law_least ["above", "below"] []
  g_law_due : mg "_law_due" = some (.ref A.f_law_due)
  F_law_due : Fun K "_law_due" "_law_due" s_law_due A.f_law_due A.d_law_due
  b_law_due : Binds K A.d_law_due ["a", "b", "c", "d"] []
  g_law_is_right : mg "_law_is_right" = some (.ref A.f_law_is_right)
  F_law_is_right : Fun K "_law_is_right" "_law_is_right" s_law_is_right A.f_law_is_right A.d_law_is_right
  b_law_is_right : Binds K A.d_law_is_right ["pot"] []
  F_law : Fun K "law" "law" s_law A.f_law A.d_law
  b_law : Binds K A.d_law ["script"] []
  z_isinstance : mg "isinstance" = none
  z_int : mg "int" = none
  z_bool : mg "bool" = none
  z_abs : mg "abs" = none
  z_len : mg "len" = none
  z_max : mg "max" = none
  z_min : mg "min" = none
  z_range : mg "range" = none
  z_all : mg "all" = none
  kit_NumNum : PySem.W.kitOne K (.ref A.c_Number) (.ref A.c_Number) = some true
/-! ### is_integer, shared_divisor -/
section
variable {P : Program} {w : World} {K : PySem.W.Frag} {mg : Str → Option Value} {base : Heap} {A : Ad}
/-- an int is an integer -/
def spIsInt : Sp := fun vs H Q _ => ∃ i : Int, vs = [.int i] ∧ Q (.bl true) H
theorem ok_is_integer (T : Txt K mg A) : FnOk P w K mg base CX0 1 A.f_is_integer A.d_is_integer ["value"] spIsInt := by
  refine T.F_is_integer.ok sc_is_integer (fun vs H Q E h => ?_) (fun cdv B outer s H vs Q E hr h => ?_)
  · obtain ⟨i, rfl, _⟩ := h
    rfl
  · obtain ⟨i, rfl, k⟩ := h
    refine ⟨_, pss_one (ps_ret (pe_and (pe_callB call_isi (by rfl) T.z_isinstance (by decide +kernel) (pa_cons (pv 0) (pa_cons (pe_bltn (v := .ty "int") (by rfl) T.z_int (by decide +kernel) rfl) pa_nil)))
      (pe_one (pe_not (pe_callB call_isi (by rfl) T.z_isinstance (by decide +kernel) (pa_cons (pv 0) (pa_cons (pe_bltn (v := .ty "bool") (by rfl) T.z_bool (by decide +kernel) rfl) pa_nil))))))), ?_⟩
    refine ⟨_, rfl, _, _, _, _, true, rfl, .ty "int", .base (.int i), kit_ty (by decide +kernel), true, rfl, ?_⟩
    refine iteT ?_
    refine ⟨_, rfl, _, _, _, _, false, rfl, .ty "bool", .base (.int i), kit_ty (by decide +kernel), false, rfl, ?_⟩
    exact k
def spGcd : Sp := fun vs H Q _ => ∃ a b : Nat, vs = [.int a, .int b] ∧ Q (.int (Nat.gcd a b : Nat)) H
def natAt (σ : L2.St) (i : Nat) : Nat := match σ[i]? with
  | some (some (.int k)) => k.toNat
  | _ => 0
theorem ok_shared_divisor (T : Txt K mg A) : FnOk P w K mg base CX0 1 A.f_shared_divisor A.d_shared_divisor ["one", "other"] spGcd := by
  refine T.F_shared_divisor.ok sc_shared_divisor (fun vs H Q E h => ?_) (fun cdv B outer s H vs Q E hr h => ?_)
  · obtain ⟨a, b, rfl, _⟩ := h
    rfl
  · obtain ⟨a, b, rfl, k⟩ := h
    refine ⟨_, pss_cons (ps_while PassesOwn.never (pt_cmpR op_ne (pv 1) pe_int (nomark _))
      (pss_one (ps_par (i := 0) (j := 1) rfl sc_shared_divisor.nd rfl rfl (by decide) rfl rfl (pa_cons (pv 1) (pa_cons (pe_op op_mod (pv 0) (pv 1)) pa_nil)) (by rfl))))
      (pss_one (ps_ret (pv 0))), ?_⟩
    refine while_by (fun σ H' => ∃ c d : Nat, σ = [some (.int c), some (.int d)] ∧ Nat.gcd c d = Nat.gcd a b ∧ H' = H) (fun σ _ => natAt σ 1) ⟨a, b, rfl, rfl, rfl⟩ ?_ ?_
    · rintro σ H' ⟨c, d, rfl, hg, rfl⟩
      refine ⟨_, rfl, rfl, _, rfl, ?_⟩
      by_cases hd : d = 0
      · subst hd
        refine iteF ?_
        rw [Nat.gcd_zero_right] at hg
        refine ⟨_, rfl, ?_⟩
        rw [hg]
        exact k
      · have hne : (!decide (V.int (d : Int) = V.int 0)) = true := by
          have : ¬ (V.int (d : Int) = V.int 0) := fun e => hd (by injection e with e; omega)
          rw [decide_eq_false this]
          rfl
        rw [hne]
        refine iteT ?_
        refine ⟨_, rfl, _, rfl, _, rfl, _, _, rfl, rfl, (by show (0 : Int) < d; omega), _, _, rfl, ⟨d, c % d, ?_, ?_, rfl⟩, ?_⟩
        · rfl
        · rw [← hg, Nat.gcd_comm c d, Nat.gcd_rec d c, Nat.gcd_comm]
        · show ((c : Int) % (d : Int)).toNat < (d : Int).toNat
          have := Int.emod_lt_of_pos (c : Int) (show (0 : Int) < d by omega)
          have := Int.emod_nonneg (c : Int) (show (d : Int) ≠ 0 by omega)
          omega
    · intro σ H Q Q' m h
      obtain ⟨v, e, q⟩ := h
      obtain ⟨z, b, e2, q2⟩ := q
      exact ⟨v, e, z, b, e2, m _ _ q2⟩
end
/-! ### Number -/
def nf (q : Rat) : List (Str × V) := [("own_top", .int q.num), ("own_bottom", .int (q.den : Int))]
def Num (C : Addr) (H : Hp) (a : Addr) (q : Rat) : Prop := ∃ dx, H a = some (.ins C dx (nf q))
theorem Num.mono {C : Addr} {H H' : Hp} {a : Addr} {q : Rat} (h : Num C H a q) (s : Same H H') : Num C H' a q := by
  obtain ⟨dx, e⟩ := h
  exact ⟨dx, s _ _ e⟩
theorem nf_put (q : Rat) : putF "own_bottom" (.int (q.den : Int)) (putF "own_top" (.int q.num) []) = nf q := by
  show (if ("own_top" : Str) = "own_bottom" then [(("own_bottom" : Str), V.int (q.den : Int))] else (("own_top" : Str), V.int q.num) :: putF "own_bottom" (.int (q.den : Int)) []) = nf q
  rw [if_neg (by decide +kernel)]
  rfl
theorem nf_top (q : Rat) : (nf q).lookup ("own_top" : Str) = some (.int q.num) := by simp [nf, List.lookup]
theorem nf_bot (q : Rat) : (nf q).lookup ("own_bottom" : Str) = some (.int (q.den : Int)) := by
  have : (("own_bottom" : Str) == ("own_top" : Str)) = false := by decide +kernel
  simp [nf, List.lookup, this]
theorem nf_no (q : Rat) {m : Str} (h1 : (m == ("own_top" : Str)) = false) (h2 : (m == ("own_bottom" : Str)) = false) : (nf q).lookup m = none := by simp [nf, List.lookup, h1, h2]
/-- a new instance and its dict, then its fields -/
theorem same_made {C : Addr} {H : Hp} {x dx : Addr} {fs gs : List (Str × V)} (nx : H x = none) (ndx : H dx = none) : Same H (upd (upd (upd H dx (.own x)) x (.ins C dx fs)) x (.ins C dx gs)) := fun b o e => by
  rw [upd_upd, upd_ne (ne_of_none e nx), upd_ne (ne_of_none e ndx)]
  exact e
theorem same_new {H : Hp} {x : Addr} {o : HO} (nx : H x = none) : Same H (upd H x o) := fun b u e => by
  rw [upd_ne (ne_of_none e nx)]
  exact e
theorem abs_nat (t : Int) : (if t < 0 then -t else t) = (t.natAbs : Int) := by split <;> omega
theorem dint_ne {b c : Int} (h : b ≠ c) : decide (V.int b = V.int c) = false := decide_eq_false fun e => h (by injection e)
theorem dint_eq {b c : Int} (h : b = c) : decide (V.int b = V.int c) = true := decide_eq_true (by rw [h])
section
variable {P : Program} {w : World} {K : PySem.W.Frag} {mg : Str → Option Value} {base : Heap} {A : Ad}
def spNumI (C : Addr) : Sp := fun vs H Q _ => ∃ (p dx : Addr) (t b : Int), vs = [.ref p, .int t, .int b] ∧ b ≠ 0 ∧ b.natAbs < 2 ^ 9000 ∧ H p = some (.ins C dx []) ∧ Q .non (upd H p (.ins C dx (nf (Rat.divInt t b))))
theorem ok_Number_init (T : Txt K mg A) : FnOk P w K mg base CX0 2 A.f_Number_init A.d_Number_init ["self", "top", "bottom"] (spNumI A.c_Number) := by
  refine T.F_Number_init.ok sc_Number_init (fun vs H Q E h => ?_) (fun cdv B outer s H vs Q E hr h => ?_)
  · obtain ⟨p, dx, t, b, rfl, _⟩ := h
    rfl
  · obtain ⟨p, dx, t, b, rfl, hb, hbd, hp, k⟩ := h
    refine ⟨_, pss_cons (ps_if (PW.pt (pw_or (pt_not (pt_val (pe_call (ok_is_integer T) hr rfl T.g_is_integer T.F_is_integer.kp T.b_is_integer .nil pass0 (pa_cons (pv 1) pa_nil))))
        (pw_or (pt_not (pt_val (pe_call (ok_is_integer T) hr rfl T.g_is_integer T.F_is_integer.kp T.b_is_integer .nil pass0 (pa_cons (pv 2) pa_nil))))
        (pw_or1 (pt_cmpR op_eq (pv 2) pe_int (nomark _)))))) pss_never pss_nil)
      (pss_cons (ps_set (i := 3) sc_Number_init.nd rfl (Or.inl rfl) (pe_call (ok_shared_divisor T) hr rfl T.g_shared_divisor T.F_shared_divisor.kp T.b_shared_divisor .nil pass0
        (pa_cons (pe_callB call_abs (by rfl) T.z_abs (by decide +kernel) (pa_cons (pv 1) pa_nil)) (pa_cons (pe_callB call_abs (by rfl) T.z_abs (by decide +kernel) (pa_cons (pv 2) pa_nil)) pa_nil))))
      (pss_cons (ps_if (pt_cmpR op_lt (pv 2) pe_int (nomark _)) (pss_one (ps_set (i := 3) sc_Number_init.nd rfl (Or.inl rfl) (pe_un un_neg (pv 3)))) pss_nil)
      (pss_cons (ps_fld (pv 0) (pe_op op_fdivG (pv 1) (pv 3)) rfl)
      (pss_one (ps_fld (pv 0) (pe_op op_fdivG (pv 2) (pv 3)) rfl))))), ?_⟩
    refine ⟨_, rfl, t, rfl, true, rfl, ?_⟩
    refine iteF ?_
    refine ⟨_, rfl, b, rfl, true, rfl, ?_⟩
    refine iteF ?_
    refine ⟨_, rfl, rfl, _, rfl, ?_⟩
    rw [dint_ne hb]
    refine iteF ?_
    refine ⟨_, rfl, t, rfl, _, rfl, b, rfl, t.natAbs, b.natAbs, by rw [abs_nat, abs_nat]; rfl, ?_⟩
    have hg0 : 0 < Nat.gcd t.natAbs b.natAbs := gcd_ne hb rfl
    have hgl : Nat.gcd t.natAbs b.natAbs ≤ b.natAbs := gcd_le hb rfl
    have hn : ∀ s : Int, s = (if b < 0 then -((Nat.gcd t.natAbs b.natAbs : Nat) : Int) else ((Nat.gcd t.natAbs b.natAbs : Nat) : Int)) → CDivG t s ∧ CDivG b s ∧ t.fdiv s = (Rat.divInt t b).num ∧ b.fdiv s = ((Rat.divInt t b).den : Int) := fun s e => by
      have h1 : s ≠ 0 := by rw [e]; split <;> omega
      have h2 : s.natAbs = Nat.gcd t.natAbs b.natAbs := by rw [e]; split <;> omega
      have h3 : s.natAbs.log2 < 9000 := log2_lt (by decide) (by rw [h2]; exact Nat.lt_of_le_of_lt hgl hbd)
      exact ⟨⟨h1, h3⟩, ⟨h1, h3⟩, by rw [e]; exact make_num hb rfl, by rw [e]; exact make_den hb rfl⟩
    refine ⟨_, rfl, _, _, rfl, rfl, _, rfl, ?_⟩
    have fin : ∀ s : Int, s = (if b < 0 then -((Nat.gcd t.natAbs b.natAbs : Nat) : Int) else ((Nat.gcd t.natAbs b.natAbs : Nat) : Int)) →
        (tSeq (sFld K (tVar 0) (tOp (rI CDivG fun i j => .int (i.fdiv j)) (tVar 1) (tVar 3)) "own_top") (sFld K (tVar 0) (tOp (rI CDivG fun i j => .int (i.fdiv j)) (tVar 2) (tVar 3)) "own_bottom")) { nx := fun _ H' => Q .non H', rt := Q }
          [some (.ref p), some (.int t), some (.int b), some (.int s)] H := fun s e => by
      obtain ⟨c1, c2, e1, e2⟩ := hn s e
      refine ⟨_, rfl, _, rfl, _, _, rfl, rfl, c1, _, rfl, p, A.c_Number, dx, [], rfl, hp, T.cl_Number, T.n_Number_own_top, (by decide), ?_⟩
      refine ⟨_, rfl, _, rfl, _, _, rfl, rfl, c2, _, rfl, p, A.c_Number, dx, _, rfl, upd_same, T.cl_Number, T.n_Number_own_bottom, (by show 1 < 1000; decide), ?_⟩
      dsimp only
      rw [upd_upd, e1, e2, nf_put]
      exact k
    refine ite2 (fun hlt => ?_) (fun hlt => ?_)
    · refine ⟨_, rfl, _, rfl, ?_⟩
      exact fin _ (by rw [if_pos (of_decide_eq_true hlt)])
    · exact fin _ (by rw [if_neg fun z => hlt (decide_eq_true z)])
/-- Number(t, b), both written -/
theorem b_Number (T : Txt K mg A) : Binds K A.d_Number_init ["self", "top", "bottom"] [] := by
  obtain ⟨ds, r, b⟩ := T.F_Number_init.binds1 (ps := ["self", "top", "bottom"]) 3 1 (by simp) rfl (fun T' kV dc pm an cd ct us its hu hi => by
    match us, hu, its, hi with
    | [u1, u2, u3], _, [i1], _ => exact ⟨_, rfl, rfl⟩)
  cases r
  exact b
end
/-! ### Number's methods -/
/-- Number(t, b) gives a new number -/
theorem made_num {C : Addr} {H : Hp} {x dx : Addr} (q : Rat) (nx : H x = none) (ndx : H dx = none) :
    Same H (upd (upd (upd H dx (.own x)) x (.ins C dx [])) x (.ins C dx (nf q))) ∧ Num C (upd (upd (upd H dx (.own x)) x (.ins C dx [])) x (.ins C dx (nf q))) x q :=
  ⟨same_made nx ndx, dx, upd_same⟩
section
variable {P : Program} {w : World} {K : PySem.W.Frag} {mg : Str → Option Value} {base : Heap} {A : Ad}
theorem ok_Number_top (T : Txt K mg A) : FnOk P w K mg base CX0 1 A.f_Number_top A.d_Number_top ["self"] (getSp A.c_Number "own_top") := by
  refine T.F_Number_top.ok sc_Number_top (fun vs H Q E h => ?_) (fun cdv B outer s H vs Q E hr h => ?_)
  · obtain ⟨a, dx, fs, v, rfl, _⟩ := h
    rfl
  · obtain ⟨a, dx, fs, v, rfl, e, l, k⟩ := h
    exact ⟨_, pss_one (ps_ret (pe_fld (pv 0) rfl)), _, rfl, a, _, dx, fs, v, rfl, e, T.cl_Number, T.n_Number_own_top, l, k⟩
theorem ok_Number_bottom (T : Txt K mg A) : FnOk P w K mg base CX0 1 A.f_Number_bottom A.d_Number_bottom ["self"] (getSp A.c_Number "own_bottom") := by
  refine T.F_Number_bottom.ok sc_Number_bottom (fun vs H Q E h => ?_) (fun cdv B outer s H vs Q E hr h => ?_)
  · obtain ⟨a, dx, fs, v, rfl, _⟩ := h
    rfl
  · obtain ⟨a, dx, fs, v, rfl, e, l, k⟩ := h
    exact ⟨_, pss_one (ps_ret (pe_fld (pv 0) rfl)), _, rfl, a, _, dx, fs, v, rfl, e, T.cl_Number, T.n_Number_own_bottom, l, k⟩
/-- == of two numbers -/
def spNumEq (C : Addr) : Sp := fun vs H Q _ => ∃ (a b : Addr) (p q : Rat), vs = [.ref a, .ref b] ∧ Num C H a p ∧ Num C H b q ∧ Q (.bl (decide (p = q))) H
theorem rat_eq_dec (p q : Rat) : decide (p = q) = (decide (V.int p.num = V.int q.num) && decide (V.int (p.den : Int) = V.int (q.den : Int))) := by
  by_cases h : p = q
  · subst h
    simp
  · rw [decide_eq_false h]
    by_cases h1 : p.num = q.num
    · have h2 : ¬ ((p.den : Int) = (q.den : Int)) := fun e => h (Rat.ext h1 (by omega))
      rw [dint_ne h2, Bool.and_false]
    · rw [dint_ne h1, Bool.false_and]
theorem ok_Number_eq (T : Txt K mg A) : FnOk P w K mg base CX0 1 A.f_Number_eq A.d_Number_eq ["self", "other"] (spNumEq A.c_Number) := by
  refine T.F_Number_eq.ok sc_Number_eq (fun vs H Q E h => ?_) (fun cdv B outer s H vs Q E hr h => ?_)
  · obtain ⟨a, b, p, q, rfl, _⟩ := h
    rfl
  · obtain ⟨a, b, p, q, rfl, ⟨dx, ha⟩, ⟨dy, hb⟩, k⟩ := h
    refine ⟨_, pss_one (ps_ret (pe_and (pe_callB call_isi (by rfl) T.z_isinstance (by decide +kernel) (pa_cons (pv 1) (pa_cons (pe_glob (v := .ref A.c_Number) (by rfl) T.g_Number rfl) pa_nil)))
      (pe_and (pe_cmpR op_eq (pe_fld (pv 0) rfl) (pe_fld (pv 1) rfl) (nomark _)) (pe_one (pe_cmpR op_eq (pe_fld (pv 0) rfl) (pe_fld (pv 1) rfl) (nomark _)))))), ?_⟩
    refine ⟨_, rfl, _, _, _, _, true, rfl, .own _, .base (.ins hb T.cl_Number T.ca_Number T.cn T.ct T.cm_Number), T.kit_NumNum, true, rfl, ?_⟩
    refine iteT ?_
    refine ⟨_, rfl, a, _, dx, _, _, rfl, ha, T.cl_Number, T.n_Number_own_top, nf_top p, _, rfl, b, _, dy, _, _, rfl, hb, T.cl_Number, T.n_Number_own_top, nf_top q, rfl, _, rfl, ?_⟩
    rw [rat_eq_dec] at k
    refine ite2 (fun h1 => ?_) (fun h1 => ?_)
    · rw [h1, Bool.true_and] at k
      exact ⟨_, rfl, a, _, dx, _, _, rfl, ha, T.cl_Number, T.n_Number_own_bottom, nf_bot p, _, rfl, b, _, dy, _, _, rfl, hb, T.cl_Number, T.n_Number_own_bottom, nf_bot q, rfl, k⟩
    · have h2 := Bool.eq_false_iff.mpr h1
      rw [h2, Bool.false_and] at k
      exact k
/-- an operation of two numbers -/
def spNum2 (C : Addr) (f : Rat → Rat → Rat) : Sp := fun vs H Q _ => ∃ (a b : Addr) (p q : Rat), vs = [.ref a, .ref b] ∧ Num C H a p ∧ Num C H b q ∧ Bd 4000 p ∧ Bd 4000 q ∧
  ∀ x H', Same H H' → H x = none → Num C H' x (f p q) → Q (.ref x) H'
theorem bdw {m n : Nat} {i j : Int} (ha : i.natAbs < 2 ^ m) (hb : j.natAbs < 2 ^ n) (h0 : 0 < m := by decide) (h1 : 0 < n := by decide) (h : m + n ≤ 1000000 := by decide) : CMulW i j := wide_mul ha hb h0 h1 h
theorem ok_Number_add (T : Txt K mg A) : FnOk P w K mg base CX0 4 A.f_Number_add A.d_Number_add ["self", "other"] (spNum2 A.c_Number (· + ·)) := by
  refine T.F_Number_add.ok sc_Number_add (fun vs H Q E h => ?_) (fun cdv B outer s H vs Q E hr h => ?_)
  · obtain ⟨a, b, p, q, rfl, _⟩ := h
    rfl
  · obtain ⟨a, b, p, q, rfl, ⟨dx, ha⟩, ⟨dy, hb⟩, bp, bq, k⟩ := h
    refine ⟨_, pss_cons (ps_set (i := 2) sc_Number_add.nd rfl (Or.inl rfl) (pe_op op_add (pe_op op_mulW (pe_fld (pv 0) rfl) (pe_fld (pv 1) rfl)) (pe_op op_mulW (pe_fld (pv 1) rfl) (pe_fld (pv 0) rfl))))
      (pss_one (ps_ret (pe_make T.M_Number (ok_Number_init T) hr rfl T.g_Number (b_Number T) .nil pass0 (pa_cons (pv 2) (pa_cons (pe_op op_mulW (pe_fld (pv 0) rfl) (pe_fld (pv 1) rfl)) pa_nil))))), ?_⟩
    refine ⟨_, rfl, a, _, dx, _, _, rfl, ha, T.cl_Number, T.n_Number_own_top, nf_top p, _, rfl, b, _, dy, _, _, rfl, hb, T.cl_Number, T.n_Number_own_bottom, nf_bot q, _, _, rfl, rfl, bdw bp.1 bq.den', ?_⟩
    refine ⟨_, rfl, b, _, dy, _, _, rfl, hb, T.cl_Number, T.n_Number_own_top, nf_top q, _, rfl, a, _, dx, _, _, rfl, ha, T.cl_Number, T.n_Number_own_bottom, nf_bot p, _, _, rfl, rfl, bdw bq.1 bp.den', _, _, rfl, rfl, ?_⟩
    refine ⟨_, rfl, _, rfl, a, _, dx, _, _, rfl, ha, T.cl_Number, T.n_Number_own_bottom, nf_bot p, _, rfl, b, _, dy, _, _, rfl, hb, T.cl_Number, T.n_Number_own_bottom, nf_bot q, _, _, rfl, rfl, bdw bp.den' bq.den', ?_⟩
    intro x dz nx ndz nex
    refine ⟨x, dz, _, _, rfl, Int.mul_ne_zero (den_ne p) (den_ne q), up_lt (imul_lt bp.den' bq.den') (by decide), upd_same, rfl, ?_⟩
    have e := made_num (C := A.c_Number) (p + q) nx ndz
    rw [← add_eq] at e
    exact k _ _ e.1 nx (by show Num _ _ _ (p + q); rw [← add_eq]; exact e.2)
theorem ok_Number_sub (T : Txt K mg A) : FnOk P w K mg base CX0 4 A.f_Number_sub A.d_Number_sub ["self", "other"] (spNum2 A.c_Number (· - ·)) := by
  refine T.F_Number_sub.ok sc_Number_sub (fun vs H Q E h => ?_) (fun cdv B outer s H vs Q E hr h => ?_)
  · obtain ⟨a, b, p, q, rfl, _⟩ := h
    rfl
  · obtain ⟨a, b, p, q, rfl, ⟨dx, ha⟩, ⟨dy, hb⟩, bp, bq, k⟩ := h
    refine ⟨_, pss_cons (ps_set (i := 2) sc_Number_sub.nd rfl (Or.inl rfl) (pe_op op_sub (pe_op op_mulW (pe_fld (pv 0) rfl) (pe_fld (pv 1) rfl)) (pe_op op_mulW (pe_fld (pv 1) rfl) (pe_fld (pv 0) rfl))))
      (pss_one (ps_ret (pe_make T.M_Number (ok_Number_init T) hr rfl T.g_Number (b_Number T) .nil pass0 (pa_cons (pv 2) (pa_cons (pe_op op_mulW (pe_fld (pv 0) rfl) (pe_fld (pv 1) rfl)) pa_nil))))), ?_⟩
    refine ⟨_, rfl, a, _, dx, _, _, rfl, ha, T.cl_Number, T.n_Number_own_top, nf_top p, _, rfl, b, _, dy, _, _, rfl, hb, T.cl_Number, T.n_Number_own_bottom, nf_bot q, _, _, rfl, rfl, bdw bp.1 bq.den', ?_⟩
    refine ⟨_, rfl, b, _, dy, _, _, rfl, hb, T.cl_Number, T.n_Number_own_top, nf_top q, _, rfl, a, _, dx, _, _, rfl, ha, T.cl_Number, T.n_Number_own_bottom, nf_bot p, _, _, rfl, rfl, bdw bq.1 bp.den', _, _, rfl, rfl, ?_⟩
    refine ⟨_, rfl, _, rfl, a, _, dx, _, _, rfl, ha, T.cl_Number, T.n_Number_own_bottom, nf_bot p, _, rfl, b, _, dy, _, _, rfl, hb, T.cl_Number, T.n_Number_own_bottom, nf_bot q, _, _, rfl, rfl, bdw bp.den' bq.den', ?_⟩
    intro x dz nx ndz nex
    refine ⟨x, dz, _, _, rfl, Int.mul_ne_zero (den_ne p) (den_ne q), up_lt (imul_lt bp.den' bq.den') (by decide), upd_same, rfl, ?_⟩
    have e := made_num (C := A.c_Number) (p - q) nx ndz
    rw [← sub_eq] at e
    exact k _ _ e.1 nx (by show Num _ _ _ (p - q); rw [← sub_eq]; exact e.2)
theorem ok_Number_mul (T : Txt K mg A) : FnOk P w K mg base CX0 4 A.f_Number_mul A.d_Number_mul ["self", "other"] (spNum2 A.c_Number (· * ·)) := by
  refine T.F_Number_mul.ok sc_Number_mul (fun vs H Q E h => ?_) (fun cdv B outer s H vs Q E hr h => ?_)
  · obtain ⟨a, b, p, q, rfl, _⟩ := h
    rfl
  · obtain ⟨a, b, p, q, rfl, ⟨dx, ha⟩, ⟨dy, hb⟩, bp, bq, k⟩ := h
    refine ⟨_, pss_one (ps_ret (pe_make T.M_Number (ok_Number_init T) hr rfl T.g_Number (b_Number T) .nil pass0 (pa_cons (pe_op op_mulW (pe_fld (pv 0) rfl) (pe_fld (pv 1) rfl)) (pa_cons (pe_op op_mulW (pe_fld (pv 0) rfl) (pe_fld (pv 1) rfl)) pa_nil)))), ?_⟩
    refine ⟨_, rfl, a, _, dx, _, _, rfl, ha, T.cl_Number, T.n_Number_own_top, nf_top p, _, rfl, b, _, dy, _, _, rfl, hb, T.cl_Number, T.n_Number_own_top, nf_top q, _, _, rfl, rfl, bdw bp.1 bq.1, ?_⟩
    refine ⟨_, rfl, a, _, dx, _, _, rfl, ha, T.cl_Number, T.n_Number_own_bottom, nf_bot p, _, rfl, b, _, dy, _, _, rfl, hb, T.cl_Number, T.n_Number_own_bottom, nf_bot q, _, _, rfl, rfl, bdw bp.den' bq.den', ?_⟩
    intro x dz nx ndz nex
    refine ⟨x, dz, _, _, rfl, Int.mul_ne_zero (den_ne p) (den_ne q), up_lt (imul_lt bp.den' bq.den') (by decide), upd_same, rfl, ?_⟩
    have e := made_num (C := A.c_Number) (p * q) nx ndz
    rw [← mul_eq] at e
    exact k _ _ e.1 nx (by show Num _ _ _ (p * q); rw [← mul_eq]; exact e.2)
/-- the quotient by what is not 0 -/
def spNumDiv (C : Addr) : Sp := fun vs H Q _ => ∃ (a b : Addr) (p q : Rat), vs = [.ref a, .ref b] ∧ Num C H a p ∧ Num C H b q ∧ Bd 4000 p ∧ Bd 4000 q ∧ q ≠ 0 ∧
  ∀ x H', Same H H' → H x = none → Num C H' x (p / q) → Q (.ref x) H'
theorem ok_Number_divided_by (T : Txt K mg A) : FnOk P w K mg base CX0 4 A.f_Number_divided_by A.d_Number_divided_by ["self", "other"] (spNumDiv A.c_Number) := by
  refine T.F_Number_divided_by.ok sc_Number_divided_by (fun vs H Q E h => ?_) (fun cdv B outer s H vs Q E hr h => ?_)
  · obtain ⟨a, b, p, q, rfl, _⟩ := h
    rfl
  · obtain ⟨a, b, p, q, rfl, ⟨dx, ha⟩, ⟨dy, hb⟩, bp, bq, hq, k⟩ := h
    refine ⟨_, pss_cons (ps_if (pt_cmpR op_eq (pe_fld (pv 1) rfl) pe_int (nomark _)) pss_never pss_nil)
      (pss_one (ps_ret (pe_make T.M_Number (ok_Number_init T) hr rfl T.g_Number (b_Number T) .nil pass0 (pa_cons (pe_op op_mulW (pe_fld (pv 0) rfl) (pe_fld (pv 1) rfl)) (pa_cons (pe_op op_mulW (pe_fld (pv 0) rfl) (pe_fld (pv 1) rfl)) pa_nil))))), ?_⟩
    refine ⟨_, rfl, b, _, dy, _, _, rfl, hb, T.cl_Number, T.n_Number_own_top, nf_top q, rfl, _, rfl, ?_⟩
    rw [dint_ne (num_ne hq)]
    refine iteF ?_
    refine ⟨_, rfl, a, _, dx, _, _, rfl, ha, T.cl_Number, T.n_Number_own_top, nf_top p, _, rfl, b, _, dy, _, _, rfl, hb, T.cl_Number, T.n_Number_own_bottom, nf_bot q, _, _, rfl, rfl, bdw bp.1 bq.den', ?_⟩
    refine ⟨_, rfl, a, _, dx, _, _, rfl, ha, T.cl_Number, T.n_Number_own_bottom, nf_bot p, _, rfl, b, _, dy, _, _, rfl, hb, T.cl_Number, T.n_Number_own_top, nf_top q, _, _, rfl, rfl, bdw bp.den' bq.1, ?_⟩
    intro x dz nx ndz nex
    refine ⟨x, dz, _, _, rfl, Int.mul_ne_zero (den_ne p) (num_ne hq), up_lt (imul_lt bp.den' bq.1) (by decide), upd_same, rfl, ?_⟩
    have e := made_num (C := A.c_Number) (p / q) nx ndz
    rw [← div_eq] at e
    exact k _ _ e.1 nx (by rw [← div_eq]; exact e.2)
end
/-! ### Line -/
def lf (p q : Addr) : List (Str × V) := [("own_base", .ref p), ("own_slope", .ref q)]
theorem lf_put (p q : Addr) : putF "own_slope" (.ref q) (putF "own_base" (.ref p) []) = lf p q := by
  show (if ("own_base" : Str) = "own_slope" then [(("own_slope" : Str), V.ref q)] else (("own_base" : Str), V.ref p) :: putF "own_slope" (.ref q) []) = lf p q
  rw [if_neg (by decide +kernel)]
  rfl
theorem lf_base (p q : Addr) : (lf p q).lookup ("own_base" : Str) = some (.ref p) := by simp [lf, List.lookup]
theorem lf_slope (p q : Addr) : (lf p q).lookup ("own_slope" : Str) = some (.ref q) := by
  have : (("own_slope" : Str) == ("own_base" : Str)) = false := by decide +kernel
  simp [lf, List.lookup, this]
theorem lf_no (p q : Addr) {m : Str} (h1 : (m == ("own_base" : Str)) = false) (h2 : (m == ("own_slope" : Str)) = false) : (lf p q).lookup m = none := by simp [lf, List.lookup, h1, h2]
/-- a line at a: the numbers b and s at p and q -/
structure Lin (A : Ad) (H : Hp) (a : Addr) (b s : Rat) : Prop where
  ex : ∃ dx p q, H a = some (.ins A.c_Line dx (lf p q)) ∧ Num A.c_Number H p b ∧ Num A.c_Number H q s
theorem Lin.mono {A : Ad} {H H' : Hp} {a : Addr} {b t : Rat} (h : Lin A H a b t) (s : Same H H') : Lin A H' a b t := by
  obtain ⟨dx, p, q, e, h1, h2⟩ := h.ex
  exact ⟨dx, p, q, s _ _ e, h1.mono s, h2.mono s⟩
section
variable {P : Program} {w : World} {K : PySem.W.Frag} {mg : Str → Option Value} {base : Heap} {A : Ad}
def spLineI (C : Addr) : Sp := fun vs H Q _ => ∃ (o dx p q : Addr), vs = [.ref o, .ref p, .ref q] ∧ H o = some (.ins C dx []) ∧ Q .non (upd H o (.ins C dx (lf p q)))
theorem ok_Line_init (T : Txt K mg A) : FnOk P w K mg base CX0 1 A.f_Line_init A.d_Line_init ["self", "base", "slope"] (spLineI A.c_Line) := by
  refine T.F_Line_init.ok sc_Line_init (fun vs H Q E h => ?_) (fun cdv B outer s H vs Q E hr h => ?_)
  · obtain ⟨o, dx, p, q, rfl, _⟩ := h
    rfl
  · obtain ⟨o, dx, p, q, rfl, hp, k⟩ := h
    refine ⟨_, pss_cons (ps_fld (pv 0) (pv 1) rfl) (pss_one (ps_fld (pv 0) (pv 2) rfl)), ?_⟩
    refine ⟨_, rfl, _, rfl, o, A.c_Line, dx, [], rfl, hp, T.cl_Line, T.n_Line_own_base, (by decide), ?_⟩
    refine ⟨_, rfl, _, rfl, o, A.c_Line, dx, _, rfl, upd_same, T.cl_Line, T.n_Line_own_slope, (by show 1 < 1000; decide), ?_⟩
    dsimp only
    rw [upd_upd, lf_put]
    exact k
/-- Line(p, q) gives a new line -/
theorem made_lin {H : Hp} {x dx p q : Addr} {b t : Rat} (hp : Num A.c_Number H p b) (hq : Num A.c_Number H q t) (nx : H x = none) (ndx : H dx = none) :
    Same H (upd (upd (upd H dx (.own x)) x (.ins A.c_Line dx [])) x (.ins A.c_Line dx (lf p q))) ∧ Lin A (upd (upd (upd H dx (.own x)) x (.ins A.c_Line dx [])) x (.ins A.c_Line dx (lf p q))) x b t :=
  ⟨same_made nx ndx, ⟨dx, p, q, upd_same, hp.mono (same_made nx ndx), hq.mono (same_made nx ndx)⟩⟩
/-- line(s) -/
def spLineCall (A : Ad) : Sp := fun vs H Q _ => ∃ (a x : Addr) (b t v : Rat), vs = [.ref a, .ref x] ∧ Lin A H a b t ∧ Num A.c_Number H x v ∧ Bd 1000 b ∧ Bd 1000 t ∧ Bd 1000 v ∧
  ∀ y H', Same H H' → Num A.c_Number H' y (b + t * v) → Q (.ref y) H'
theorem ok_Line_call (T : Txt K mg A) : FnOk P w K mg base CX0 5 A.f_Line_call A.d_Line_call ["self", "s"] (spLineCall A) := by
  refine T.F_Line_call.ok sc_Line_call (fun vs H Q E h => ?_) (fun cdv B outer s H vs Q E hr h => ?_)
  · obtain ⟨a, x, b, t, v, rfl, _⟩ := h
    rfl
  · obtain ⟨a, x, b, t, v, rfl, ⟨dx, p, q, ha, ⟨d1, hp⟩, ⟨d2, hq⟩⟩, ⟨d3, hx⟩, bb, bt, bv, k⟩ := h
    refine ⟨_, pss_one (ps_ret (pe_op (op_own2 (ok_Number_add T) T.b_Number_add T.m_Number_add.at_ T.m_Number_add.fn T.sf_Number hr pass0) (pe_fld (pv 0) rfl)
      (pe_op (op_own2 (ok_Number_mul T) T.b_Number_mul T.m_Number_mul.at_ T.m_Number_mul.fn T.sf_Number hr pass0) (pe_fld (pv 0) rfl) (pv 1)))), ?_⟩
    refine ⟨_, rfl, a, _, dx, _, _, rfl, ha, T.cl_Line, T.n_Line_own_base, lf_base p q, _, rfl, a, _, dx, _, _, rfl, ha, T.cl_Line, T.n_Line_own_slope, lf_slope p q, _, rfl, ?_⟩
    refine ⟨q, _, _, x, _, _, rfl, rfl, hq, hx, q, x, t, v, rfl, ⟨_, hq⟩, ⟨_, hx⟩, bt.mono (by decide), bv.mono (by decide), fun y H1 s1 ny hy => ?_⟩
    obtain ⟨d4, hy'⟩ := id hy
    refine ⟨p, _, _, y, _, _, rfl, rfl, s1 _ _ hp, hy', p, y, b, t * v, rfl, ⟨_, s1 _ _ hp⟩, hy, bb.mono (by decide), (bt.mul bv).mono (by decide), fun z H2 s2 nz hz => ?_⟩
    exact k z H2 (s1.trans s2) hz
/-- line.meets(other) -/
def spMeets (A : Ad) : Sp := fun vs H Q _ => ∃ (a a' : Addr) (b t b' t' : Rat), vs = [.ref a, .ref a'] ∧ Lin A H a b t ∧ Lin A H a' b' t' ∧ Bd 1000 b ∧ Bd 1000 t ∧ Bd 1000 b' ∧ Bd 1000 t' ∧
  (t = t' → Q .non H) ∧ (t ≠ t' → ∀ y H', Same H H' → Num A.c_Number H' y ((b' - b) / (t - t')) → Q (.ref y) H')
theorem ok_Line_meets (T : Txt K mg A) : FnOk P w K mg base CX0 5 A.f_Line_meets A.d_Line_meets ["self", "other"] (spMeets A) := by
  refine T.F_Line_meets.ok sc_Line_meets (fun vs H Q E h => ?_) (fun cdv B outer s H vs Q E hr h => ?_)
  · obtain ⟨a, a', b, t, b', t', rfl, _⟩ := h
    rfl
  · obtain ⟨a, a', b, t, b', t', rfl, ⟨dx, p, q, ha, ⟨d1, hp⟩, ⟨d2, hq⟩⟩, ⟨dx', p', q', ha', ⟨d1', hp'⟩, ⟨d2', hq'⟩⟩, bb, bt, bb', bt', k1, k2⟩ := h
    have hr1 : Room 1 _ := hr.mono (by decide)
    refine ⟨_, pss_cons (ps_if (pt_cmpR (op_ownEq (ok_Number_eq T) T.b_Number_eq T.m_Number_eq.at_ T.m_Number_eq.fn hr1 pass0) (pe_fld (pv 0) rfl) (pe_fld (pv 1) rfl) (nomark _)) (pss_one (ps_ret pe_non)) pss_nil)
      (pss_one (ps_ret (pe_meth (pe_op (op_own2 (ok_Number_sub T) T.b_Number_sub T.m_Number_sub.at_ T.m_Number_sub.fn T.sf_Number hr pass0) (pe_fld (pv 1) rfl) (pe_fld (pv 0) rfl)) T.cl_Number T.m_Number_divided_by (ok_Number_divided_by T) hr T.b_Number_divided_by .nil pass0
        (pa_cons (pe_op (op_own2 (ok_Number_sub T) T.b_Number_sub T.m_Number_sub.at_ T.m_Number_sub.fn T.sf_Number hr pass0) (pe_fld (pv 0) rfl) (pe_fld (pv 1) rfl)) pa_nil)))), ?_⟩
    refine ⟨_, rfl, a, _, dx, _, _, rfl, ha, T.cl_Line, T.n_Line_own_slope, lf_slope p q, _, rfl, a', _, dx', _, _, rfl, ha', T.cl_Line, T.n_Line_own_slope, lf_slope p' q', ?_⟩
    refine ⟨q, _, _, _, rfl, hq, .base (.ins hq' T.cl_Number T.ca_Number T.cn T.ct T.cm_Number), (by simp [PySem.W.notFirst]), q, q', t, t', rfl, ⟨_, hq⟩, ⟨_, hq'⟩, _, rfl, ?_⟩
    refine ite2 (fun e => ?_) (fun e => ?_)
    · exact k1 (of_decide_eq_true e)
    · have hne : t ≠ t' := fun z => e (decide_eq_true z)
      refine ⟨_, rfl, a', _, dx', _, _, rfl, ha', T.cl_Line, T.n_Line_own_base, lf_base p' q', _, rfl, a, _, dx, _, _, rfl, ha, T.cl_Line, T.n_Line_own_base, lf_base p q, ?_⟩
      refine ⟨p', _, _, p, _, _, rfl, rfl, hp', hp, p', p, b', b, rfl, ⟨_, hp'⟩, ⟨_, hp⟩, bb'.mono (by decide), bb.mono (by decide), fun y H1 s1 ny hy => ?_⟩
      obtain ⟨dy, hy'⟩ := id hy
      refine ⟨y, _, _, rfl, hy', nf_no _ (by decide +kernel) (by decide +kernel), ?_⟩
      refine ⟨_, rfl, a, _, dx, _, _, rfl, s1 _ _ ha, T.cl_Line, T.n_Line_own_slope, lf_slope p q, _, rfl, a', _, dx', _, _, rfl, s1 _ _ ha', T.cl_Line, T.n_Line_own_slope, lf_slope p' q', ?_⟩
      refine ⟨q, _, _, q', _, _, rfl, rfl, s1 _ _ hq, s1 _ _ hq', q, q', t, t', rfl, ⟨_, s1 _ _ hq⟩, ⟨_, s1 _ _ hq'⟩, bt.mono (by decide), bt'.mono (by decide), fun z H2 s2 nz hz => ?_⟩
      have hnz : t - t' ≠ 0 := fun e0 => hne (by rw [← Rat.sub_add_cancel (a := t) (b := t'), e0, Rat.zero_add])
      exact ⟨y, z, _, _, rfl, hy.mono s2, hz, (bb'.sub bb).mono (by decide), (bt.sub bt').mono (by decide), hnz, fun r H3 s3 nr hrr => k2 hne r H3 (s1.trans (s2.trans s3)) hrr⟩
end
/-! ### draws -/
/-- a pot at p, of which n numbers at most were drawn behind its own digits -/
def Pot (H : Hp) (p : Addr) (n : Nat) : Prop := ∃ own mix c : Int, H p = some (.lst [.int own, .int mix, .int c]) ∧ 0 ≤ own ∧ 0 ≤ mix ∧ mix < 2305843009213693921 ∧ 0 ≤ c ∧ c ≤ n
theorem Pot.mono {H : Hp} {p : Addr} {m n : Nat} (h : Pot H p m) (l : m ≤ n) : Pot H p n := by
  obtain ⟨own, mix, c, e, h1, h2, h3, h4, h5⟩ := h
  exact ⟨own, mix, c, e, h1, h2, h3, h4, by omega⟩
theorem Pot.same {H H' : Hp} {p : Addr} {n : Nat} (h : Pot H p n) (s : Same H H') : Pot H' p n := by
  obtain ⟨own, mix, c, e, h⟩ := h
  exact ⟨own, mix, c, s _ _ e, h⟩
/-- all but what stands at p is as it was -/
def SameBut (p : Addr) (H H' : Hp) : Prop := ∀ b o, H b = some o → b ≠ p → H' b = some o
theorem SameBut.refl (p : Addr) (H : Hp) : SameBut p H H := fun _ _ e _ => e
theorem SameBut.trans {p : Addr} {H H1 H2 : Hp} (a : SameBut p H H1) (b : SameBut p H1 H2) : SameBut p H H2 := fun c o e n => b c o (a c o e n) n
theorem SameBut.same {p : Addr} {H H1 H2 : Hp} (a : SameBut p H H1) (b : Same H1 H2) : SameBut p H H2 := fun c o e n => b c o (a c o e n)
theorem Same.but {H H1 : Hp} (p : Addr) (b : Same H H1) : SameBut p H H1 := fun c o e _ => b c o e
theorem but_upd {p : Addr} {H : Hp} {o : HO} : SameBut p H (upd H p o) := fun c u e n => by rw [upd_ne n]; exact e
theorem Num.but {C p : Addr} {H H' : Hp} {a : Addr} {q : Rat} (h : Num C H a q) (s : SameBut p H H') (hp : ∃ xs, H p = some (.lst xs)) : Num C H' a q := by
  obtain ⟨dx, e⟩ := h
  obtain ⟨xs, ep⟩ := hp
  exact ⟨dx, s _ _ e (ne_of e ep (by intro z; cases z))⟩
theorem tup_but {p a : Addr} {H H' : Hp} {ys : List V} (h : H a = some (.tup ys)) (s : SameBut p H H') (hp : ∃ xs, H p = some (.lst xs)) : H' a = some (.tup ys) := by
  obtain ⟨xs, ep⟩ := hp
  exact s _ _ h (ne_of h ep (by intro z; cases z))
theorem Pot.lst {H : Hp} {p : Addr} {n : Nat} (h : Pot H p n) : ∃ xs, H p = some (.lst xs) := by
  obtain ⟨own, mix, c, e, _⟩ := h
  exact ⟨_, e⟩
theorem prime_at (c : Int) (h : 0 ≤ c) : ∃ q : Int, atI [V.int 2147483647, V.int 2147483629, V.int 2147483587, V.int 2147483579, V.int 2147483563] (c % 5) = some (.int q) ∧ 0 < q ∧ q < 2 ^ 32 := by
  have h1 := Int.emod_nonneg c (show (5 : Int) ≠ 0 by decide)
  have h2 := Int.emod_lt_of_pos c (show (0 : Int) < 5 by decide)
  have h3 : c % 5 = 0 ∨ c % 5 = 1 ∨ c % 5 = 2 ∨ c % 5 = 3 ∨ c % 5 = 4 := by omega
  rcases h3 with e | e | e | e | e <;> rw [e]
  · exact ⟨_, rfl, by decide, by decide⟩
  · exact ⟨_, rfl, by decide, by decide⟩
  · exact ⟨_, rfl, by decide, by decide⟩
  · exact ⟨_, rfl, by decide, by decide⟩
  · exact ⟨_, rfl, by decide, by decide⟩
theorem at_mem {α : Type} {xs : List α} {i : Int} (h0 : 0 ≤ i) (h1 : i < xs.length) : ∃ v, atI xs i = some v ∧ v ∈ xs := by
  have hl : i.toNat < xs.length := by omega
  have e : ((i.toNat : Nat) : Int) = i := by omega
  have h := atI_nat (xs := xs) (j := i.toNat) (v := xs[i.toNat]) (by simp [hl])
  rw [e] at h
  exact ⟨_, h, List.getElem_mem hl⟩
theorem bit_lt (c : Bool) : -(2 ^ 64) < (if c = true then (1 : Int) else 0) ∧ (if c = true then (1 : Int) else 0) < 2 ^ 64 := by cases c <;> decide
theorem bit_nn (c : Bool) : 0 ≤ (if c = true then (1 : Int) else 0) := by cases c <;> decide
/-- the answer is an int, whichever way -/
theorem with_int {Q : VK} {te : TE} {σ : L2.St} {H : Hp} (h : (∀ i : Int, Q (.int i) H) → te σ H Q) (hq : ∀ i : Int, Q (.int i) H) : te σ H Q := h hq
section
variable {P : Program} {w : World} {K : PySem.W.Frag} {mg : Str → Option Value} {base : Heap} {A : Ad}
/-- _law_pot(script, k) -/
def spPot (K : PySem.W.Frag) : Sp := fun vs H Q _ => ∃ (a : Addr) (ns : List Int) (k : Int), vs = [.ref a, .int k] ∧ SqL K H a (ns.map V.int) ∧ 0 ≤ k ∧ k ≤ 100 ∧ ∀ p H', Same H H' → H p = none → Pot H' p 0 → Q (.ref p) H'
theorem ok_law_pot (T : Txt K mg A) : FnOk P w K mg base CX0 1 A.f_law_pot A.d_law_pot ["script", "k"] (spPot K) := by
  refine T.F_law_pot.ok sc_law_pot (fun vs H Q E h => ?_) (fun cdv B outer s H vs Q E hr h => ?_)
  · obtain ⟨a, ns, k, rfl, _⟩ := h
    rfl
  · obtain ⟨a, ns, k, rfl, hS, k0, k1, kq⟩ := h
    refine ⟨_, pss_cons (ps_set (i := 2) sc_law_pot.nd rfl (Or.inl rfl) (pe_ifExp (pt_cmpR op_lt (pv 1) (pe_callB call_len_seq (by rfl) T.z_len (by decide +kernel) (pa_cons (pv 0) pa_nil)) (nomark _))
        (pe_callTy call_int1 (by rfl) T.z_int (by decide +kernel) (pa_cons (pe_ix ix_list (pv 0) (pv 1) (fun _ _ => rfl)) pa_nil)) (pe_op op_add (pe_op op_mul pe_int (pv 1)) pe_int)))
      (pss_cons (ps_set (i := 3) sc_law_pot.nd rfl (Or.inl rfl) (pe_op op_mul (pe_op op_mod (pe_callTy call_int1 (by rfl) T.z_int (by decide +kernel) (pa_cons (pe_callB call_abs (by rfl) T.z_abs (by decide +kernel) (pa_cons (pv 2) pa_nil)) pa_nil))
          (pe_op op_powW (pe_op op_powW pe_int pe_int) pe_int)) (pe_callTy call_int1 (by rfl) T.z_int (by decide +kernel) (pa_cons (pe_cmpR op_ge (pe_callB call_abs (by rfl) T.z_abs (by decide +kernel) (pa_cons (pv 2) pa_nil)) (pe_op op_powW pe_int pe_int) (nomark _)) pa_nil))))
      (pss_one (ps_ret (pe_lst (pa_cons (pv 3) (pa_cons (pe_op op_mod (pe_callTy call_int1 (by rfl) T.z_int (by decide +kernel) (pa_cons (pe_op op_add (pe_op op_add (pe_op op_mul (pe_op op_mod (pe_callTy call_int1 (by rfl) T.z_int (by decide +kernel) (pa_cons (pv 2) pa_nil)) pe_int) pe_int)
          (pe_op op_mul (pe_op op_mul pe_int (pv 1)) (pv 1))) pe_int) pa_nil)) pe_int) (pa_cons pe_int pa_nil))))))), ?_⟩
    refine with_int (fun rest => ?_) (fun cell => ?_)
    · refine ⟨_, rfl, _, rfl, a, _, rfl, Or.inl hS, _, _, rfl, rfl, _, rfl, ?_⟩
      refine ite2 (fun e => ?_) (fun e => ?_)
      · have hk := of_decide_eq_true e
        have hk' : k < (ns.map V.int).length := hk
        obtain ⟨v, hv, hm⟩ := at_mem (xs := ns.map V.int) k0 hk'
        obtain ⟨n, _, rfl⟩ := List.mem_map.mp hm
        exact ⟨_, rfl, _, rfl, a, _, _, _, rfl, rfl, hS, hv, Or.inl ⟨n, rfl, rest n⟩⟩
      · exact ⟨_, rfl, _, _, rfl, rfl, Or.inl (by decide), _, _, rfl, rfl, rest _⟩
    · refine ⟨_, rfl, _, rfl, Or.inl ⟨_, rfl, _, _, rfl, rfl, ⟨by decide, by decide⟩, _, _, rfl, rfl, ⟨by decide, by decide +kernel⟩, _, _, rfl, rfl, Int.pow_pos (Int.pow_pos (by decide)), ?_⟩⟩
      refine ⟨_, rfl, _, rfl, _, _, rfl, rfl, ⟨by decide, by decide⟩, _, _, rfl, rfl, Or.inr ⟨_, rfl, _, _, rfl, rfl, Or.inr (bit_lt _), ?_⟩⟩
      refine ⟨_, rfl, _, rfl, Or.inl ⟨_, rfl, _, _, rfl, rfl, (by show (0 : Int) < 2305843009213693951; decide), _, _, rfl, rfl, Or.inr (by decide), _, rfl, _, _, rfl, rfl, Or.inl (by decide), _, rfl, _, _, rfl, rfl, Or.inr ⟨by omega, by omega⟩, _, _, rfl, rfl, _, _, rfl, rfl, Or.inl ⟨_, rfl, _, _, rfl, rfl, (by show (0 : Int) < 2305843009213693921; decide), ?_⟩⟩⟩
      refine ⟨by show 3 ≤ sizeLine; decide, fun p hp => ?_⟩
      refine kq p _ (same_new hp) hp ⟨_, _, _, upd_same, ?_, Int.emod_nonneg _ (by decide), Int.emod_lt_of_pos _ (by decide), Int.le_refl _, by decide⟩
      exact Int.mul_nonneg (Int.emod_nonneg _ (Int.ne_of_gt (Int.pow_pos (Int.pow_pos (by decide))))) (bit_nn _)
end
section
variable {P : Program} {w : World} {K : PySem.W.Frag} {mg : Str → Option Value} {base : Heap} {A : Ad}
/-- _law_take(pot, upto): some number from 0 to upto - 1 -/
def spTake : Sp := fun vs H Q _ => ∃ (p : Addr) (u : Int) (n : Nat), vs = [.ref p, .int u] ∧ 0 < u ∧ u.natAbs < 2 ^ 9000 ∧ Pot H p n ∧ n ≤ 100000 ∧ ∀ r H', 0 ≤ r → r < u → Pot H' p (n + 1) → SameBut p H H' → Q (.int r) H'
theorem ok_law_take (T : Txt K mg A) : FnOk P w K mg base CX0 1 A.f_law_take A.d_law_take ["pot", "upto"] spTake := by
  refine T.F_law_take.ok sc_law_take (fun vs H Q E h => ?_) (fun cdv B outer s H vs Q E hr h => ?_)
  · obtain ⟨p, u, n, rfl, _⟩ := h
    rfl
  · obtain ⟨p, u, n, rfl, u0, u1, ⟨own, mix, c, hp, o0, m0, m1, c0, c1⟩, hn, k⟩ := h
    refine ⟨_, pss_cons (ps_if (pt_cmpR op_gt (pe_ix ix_list (pv 0) pe_int (fun _ _ => rfl)) pe_int (nomark _))
        (pss_cons (ps_set (i := 2) sc_law_take.nd rfl (Or.inl rfl) (pe_op op_mod (pe_callTy call_int1 (by rfl) T.z_int (by decide +kernel) (pa_cons (pe_ix ix_list (pv 0) pe_int (fun _ _ => rfl)) pa_nil)) (pv 1)))
        (pss_cons (ps_asg (pe_op op_fdivG (pe_ix ix_list (pv 0) pe_int (fun _ _ => rfl)) (pv 1)) (pg_sub (pv 0) pe_int set_list))
        (pss_one (ps_ret (pv 2))))) pss_nil)
      (pss_cons (ps_asg (pe_op op_add (pe_ix ix_list (pv 0) pe_int (fun _ _ => rfl)) pe_int) (pg_sub (pv 0) pe_int set_list))
      (pss_cons (ps_set (i := 3) sc_law_take.nd rfl (Or.inl rfl) (pe_ix ix_list (pe_lst (pa_cons pe_int (pa_cons pe_int (pa_cons pe_int (pa_cons pe_int (pa_cons pe_int pa_nil))))))
          (pe_op op_mod (pe_callTy call_int1 (by rfl) T.z_int (by decide +kernel) (pa_cons (pe_ix ix_list (pv 0) pe_int (fun _ _ => rfl)) pa_nil)) pe_int) (fun _ _ => rfl)))
      (pss_cons (ps_set (i := 4) sc_law_take.nd rfl (Or.inl rfl) (pe_op op_mod (pe_callTy call_int1 (by rfl) T.z_int (by decide +kernel) (pa_cons (pe_op op_pow (pe_op op_add (pe_op op_add (pe_ix ix_list (pv 0) pe_int (fun _ _ => rfl))
          (pe_op op_mul (pe_op op_mul pe_int (pe_ix ix_list (pv 0) pe_int (fun _ _ => rfl))) (pe_ix ix_list (pv 0) pe_int (fun _ _ => rfl)))) pe_int) pe_int) pa_nil)) (pv 3)))
      (pss_one (ps_ret (pe_op op_mod (pe_callTy call_int1 (by rfl) T.z_int (by decide +kernel) (pa_cons (pe_op op_fdiv (pe_op op_mul (pv 4) (pe_op op_add (pe_op op_mod (pe_callTy call_int1 (by rfl) T.z_int (by decide +kernel) (pa_cons (pv 4) pa_nil)) pe_int)
          (pe_op op_mul pe_int (pe_ix ix_list (pv 0) pe_int (fun _ _ => rfl))))) pe_int) pa_nil)) (pv 1))))))), ?_⟩
    refine ⟨_, rfl, p, _, _, _, rfl, rfl, SqL.of hp, rfl, _, _, rfl, rfl, _, rfl, ?_⟩
    refine ite2 (fun e => ?_) (fun e => ?_)
    · have ho : 0 < own := of_decide_eq_true e
      refine ⟨_, rfl, p, _, _, _, rfl, rfl, SqL.of hp, rfl, Or.inl ⟨_, rfl, _, rfl, _, _, rfl, rfl, u0, ?_⟩⟩
      refine ⟨_, rfl, p, _, _, _, rfl, rfl, SqL.of hp, rfl, _, rfl, _, _, rfl, rfl, ⟨by omega, log2_lt (by decide) u1⟩, _, rfl, ?_⟩
      refine ⟨p, _, _, 0, rfl, rfl, hp, rfl, _, rfl, ?_⟩
      refine k _ _ (Int.emod_nonneg _ (by omega)) (Int.emod_lt_of_pos _ u0) ⟨_, _, _, upd_same, ?_, m0, m1, c0, by omega⟩ but_upd
      rw [Int.fdiv_eq_ediv_of_nonneg _ (by omega)]
      exact Int.ediv_nonneg o0 (by omega)
    · refine ⟨_, rfl, p, _, _, _, rfl, rfl, SqL.of hp, rfl, _, _, rfl, rfl, _, rfl, p, _, _, 2, rfl, rfl, hp, rfl, ?_⟩
      refine ⟨by show 5 ≤ sizeLine; decide, fun l hl => ?_⟩
      have npl : p ≠ l := ne_of_none upd_same hl
      have hp1 : ∀ {o : HO}, (upd (upd H p (.lst [.int own, .int mix, .int (c + 1)])) l o) p = some (.lst [.int own, .int mix, .int (c + 1)]) := by
        intro o
        rw [upd_ne npl]
        exact upd_same
      obtain ⟨pr, e1, e2, e3⟩ := prime_at (c + 1) (by omega)
      refine ⟨_, rfl, p, _, _, _, rfl, rfl, SqL.of hp1, rfl, Or.inl ⟨_, rfl, _, _, rfl, rfl, (by show (0 : Int) < 5; decide), l, _, _, _, rfl, rfl, SqL.of upd_same, e1, ?_⟩⟩
      have hc : (c + 1) * (c + 1) ≤ 100001 * 100001 := Int.mul_le_mul (by omega) (by omega) (by omega) (by decide)
      have hc' : 0 ≤ (c + 1) * (c + 1) := Int.mul_nonneg (by omega) (by omega)
      have hcc : 99961 * (c + 1) * (c + 1) = 99961 * ((c + 1) * (c + 1)) := Int.mul_assoc _ _ _
      refine ⟨_, rfl, p, _, _, _, rfl, rfl, SqL.of hp1, rfl, _, rfl, p, _, _, _, rfl, rfl, SqL.of hp1, rfl, _, _, rfl, rfl, Or.inl (by decide), _, rfl, p, _, _, _, rfl, rfl, SqL.of hp1, rfl, _, _, rfl, rfl, Or.inr ⟨by omega, by omega⟩, _, _, rfl, rfl, _, _, rfl, rfl,
        _, _, rfl, rfl, ⟨by decide, by decide, by omega⟩, Or.inl ⟨_, rfl, _, rfl, _, _, rfl, rfl, e2, ?_⟩⟩
      have n0 := Int.emod_nonneg (((mix + 99961 * (c + 1) * (c + 1) + 47) ^ (3 : Int).toNat)) (show pr ≠ 0 by omega)
      have n1 := Int.emod_lt_of_pos (((mix + 99961 * (c + 1) * (c + 1) + 47) ^ (3 : Int).toNat)) e2
      refine ⟨_, rfl, _, rfl, Or.inl ⟨_, rfl, _, _, rfl, rfl, (by show (0 : Int) < 10009; decide), _, rfl, p, _, _, _, rfl, rfl, SqL.of hp1, rfl, _, _, rfl, rfl, Or.inl (by decide), _, _, rfl, rfl, _, _, rfl, rfl, Or.inl ⟨by omega, by omega⟩, _, _, rfl, rfl, ⟨by decide, by decide⟩,
        Or.inl ⟨_, rfl, _, rfl, _, _, rfl, rfl, u0, ?_⟩⟩⟩
      refine k _ _ (Int.emod_nonneg _ (by omega)) (Int.emod_lt_of_pos _ u0) ⟨_, _, _, hp1, o0, m0, m1, by omega, by omega⟩ fun b o eb nb => ?_
      have hb2 : (upd H p (.lst [.int own, .int mix, .int (c + 1)])) b = some o := by rw [upd_ne nb]; exact eb
      rw [upd_ne (ne_of_none hb2 hl)]
      exact hb2
/-- _law_of(pot, some): one of a list's items -/
def spOf : Sp := fun vs H Q _ => ∃ (p l : Addr) (xs : List V) (n : Nat), vs = [.ref p, .ref l] ∧ H l = some (.lst xs) ∧ l ≠ p ∧ xs ≠ [] ∧ xs.length ≤ 1000 ∧ Pot H p n ∧ n ≤ 100000 ∧ ∀ v H', v ∈ xs → Pot H' p (n + 1) → SameBut p H H' → Q v H'
theorem ok_law_of (T : Txt K mg A) : FnOk P w K mg base CX0 2 A.f_law_of A.d_law_of ["pot", "some"] spOf := by
  refine T.F_law_of.ok sc_law_of (fun vs H Q E h => ?_) (fun cdv B outer s H vs Q E hr h => ?_)
  · obtain ⟨p, l, xs, n, rfl, _⟩ := h
    rfl
  · obtain ⟨p, l, xs, n, rfl, hl, nlp, ne, hlen, hP, hn, k⟩ := h
    refine ⟨_, pss_one (ps_ret (pe_ix ix_list (pv 1) (pe_call (ok_law_take T) hr rfl T.g_law_take T.F_law_take.kp T.b_law_take .nil pass0 (pa_cons (pv 0) (pa_cons (pe_callB call_len_seq (by rfl) T.z_len (by decide +kernel) (pa_cons (pv 1) pa_nil)) pa_nil))) (fun _ _ => rfl))), ?_⟩
    have h0 : 0 < xs.length := List.length_pos_iff.mpr ne
    refine ⟨_, rfl, _, rfl, _, rfl, l, _, rfl, Or.inl (SqL.of hl), p, _, n, rfl, (by omega), ?_, hP, hn, fun r H' r0 r1 hP' sb => ?_⟩
    · have : ((xs.length : Int)).natAbs < 2 ^ 10 := by omega
      exact up_lt this (by decide)
    · obtain ⟨v, hv, hm⟩ := at_mem r0 r1
      exact ⟨l, _, _, _, rfl, rfl, SqL.of (sb _ _ hl nlp), hv, k v H' hm hP' sb⟩
end
/-! ### the law's own fractions -/
/-- a pair of ints at r -/
structure Pr (H : Hp) (r : Addr) (t b : Int) (n : Nat) : Prop where
  at_ : H r = some (.tup [.int t, .int b])
  lt : t.natAbs < 2 ^ n
  pos : 0 < b
  lb : b.natAbs < 2 ^ n
theorem Pr.but {p r : Addr} {H H' : Hp} {t b : Int} {n : Nat} (h : Pr H r t b n) (s : SameBut p H H') (hp : ∃ xs, H p = some (.lst xs)) : Pr H' r t b n := ⟨tup_but h.at_ s hp, h.lt, h.pos, h.lb⟩
theorem Pr.same {r : Addr} {H H' : Hp} {t b : Int} {n : Nat} (h : Pr H r t b n) (s : Same H H') : Pr H' r t b n := ⟨s _ _ h.at_, h.lt, h.pos, h.lb⟩
theorem Pr.bd {r : Addr} {H : Hp} {t b : Int} {n : Nat} (h : Pr H r t b n) : Bd n (Rat.divInt t b) := Bd.mk' (Int.ne_of_gt h.pos) h.lt h.lb
def BI (n : Nat) (v : V) : Prop := ∃ t : Int, v = .int t ∧ t.natAbs < 2 ^ n
def BP (n : Nat) (v : V) : Prop := ∃ t : Int, v = .int t ∧ 0 < t ∧ t.natAbs < 2 ^ n
section
variable {P : Program} {w : World} {K : PySem.W.Frag} {mg : Str → Option Value} {base : Heap} {A : Ad}
def spLeast : Sp := fun vs H Q _ => ∃ t b : Int, vs = [.int t, .int b] ∧ b ≠ 0 ∧ b.natAbs < 2 ^ 9000 ∧ ∀ r H', Same H H' → H r = none → H' r = some (.tup [.int (Rat.divInt t b).num, .int ((Rat.divInt t b).den : Int)]) → Q (.ref r) H'
theorem ok_law_least (T : Txt K mg A) : FnOk P w K mg base CX0 1 A.f_law_least A.d_law_least ["above", "below"] spLeast := by
  refine T.F_law_least.ok sc_law_least (fun vs H Q E h => ?_) (fun cdv B outer s H vs Q E hr h => ?_)
  · obtain ⟨a, b, rfl, _⟩ := h
    rfl
  · obtain ⟨t, b, rfl, hb, hbd, k⟩ := h
    refine ⟨_, pss_cons (ps_par (i := 2) (j := 3) rfl sc_law_least.nd rfl rfl (by decide) rfl rfl (pa_cons (pe_callB call_abs (by rfl) T.z_abs (by decide +kernel) (pa_cons (pv 0) pa_nil)) (pa_cons (pe_callB call_abs (by rfl) T.z_abs (by decide +kernel) (pa_cons (pv 1) pa_nil)) pa_nil)) (by rfl))
      (pss_cons (ps_while PassesOwn.never (pt_cmpR op_ne (pv 3) pe_int (nomark _))
        (pss_one (ps_par (i := 2) (j := 3) rfl sc_law_least.nd rfl rfl (by decide) rfl rfl (pa_cons (pv 3) (pa_cons (pe_op op_mod (pe_callTy call_int1 (by rfl) T.z_int (by decide +kernel) (pa_cons (pv 2) pa_nil)) (pv 3)) pa_nil)) (by rfl))))
      (pss_cons (ps_set (i := 4) sc_law_least.nd rfl (Or.inl rfl) (pe_ifExp (pt_cmpR op_lt (pv 1) pe_int (nomark _)) (pe_un un_neg pe_int) pe_int))
      (pss_one (ps_ret (pe_tup (pa_cons (pe_op op_fdivG (pe_op op_mul (pv 4) (pv 0)) (pv 2)) (pa_cons (pe_op op_fdivG (pe_callB call_abs (by rfl) T.z_abs (by decide +kernel) (pa_cons (pv 1) pa_nil)) (pv 2)) pa_nil))))))), ?_⟩
    refine ⟨_, rfl, _, rfl, _, rfl, _, rfl, _, _, rfl, ?_⟩
    refine while_by (fun σ H' => ∃ c d : Nat, σ = [some (.int t), some (.int b), some (.int c), some (.int d), none] ∧ Nat.gcd c d = Nat.gcd t.natAbs b.natAbs ∧ H' = H) (fun σ _ => natAt σ 3)
      ⟨t.natAbs, b.natAbs, by rw [abs_nat, abs_nat]; rfl, rfl, rfl⟩ ?_ ?_
    · rintro σ H' ⟨c, d, rfl, hg, rfl⟩
      refine ⟨_, rfl, rfl, _, rfl, ?_⟩
      by_cases hd : d = 0
      · subst hd
        refine iteF ?_
        rw [Nat.gcd_zero_right] at hg
        have hc0 : 0 < c := by rw [hg]; exact gcd_ne hb rfl
        have hcl : c ≤ b.natAbs := by rw [hg]; exact gcd_le hb rfl
        have hc2 : ((c : Int)).natAbs.log2 < 9000 := log2_lt (by decide) (Nat.lt_of_le_of_lt (by omega) hbd)
        have e1 := least_num (t := t) hb hg
        have e2 := least_den (t := t) hb hg
        refine ⟨_, rfl, _, _, rfl, rfl, _, rfl, ?_⟩
        have fin : ∀ sg : Int, sg = (if b < 0 then -1 else 1) → (tRet (tTup (tCons (tOp (rI CDivG fun i j => .int (i.fdiv j)) (tOp (rI CMul fun i j => .int (i * j)) (tVar 4) (tVar 0)) (tVar 2)) (tCons (tOp (rI CDivG fun i j => .int (i.fdiv j))
            (tCB (fun xs H Q => ∃ i, xs = [.int i] ∧ Q (.int (if i < 0 then -i else i)) H) (tCons (tVar 1) tNil)) (tVar 2)) tNil)))) { nx := fun _ H' => Q .non H', rt := Q } [some (.int t), some (.int b), some (.int c), some (.int 0), some (.int sg)] H' := fun sg hs => by
          refine ⟨_, rfl, _, rfl, _, _, rfl, rfl, Or.inl (by rw [hs]; split <;> decide), _, rfl, _, _, rfl, rfl, ⟨by omega, hc2⟩, ?_⟩
          refine ⟨_, rfl, _, rfl, _, rfl, _, _, rfl, rfl, ⟨by omega, hc2⟩, (by show 2 ≤ sizeLine; decide), fun r nr => ?_⟩
          refine k r _ (same_new nr) nr ?_
          rw [← e1, ← e2, hs]
          exact upd_same
        refine ite2 (fun hlt => ?_) (fun hlt => ?_)
        · refine ⟨_, rfl, fin _ ?_⟩
          rw [if_pos (of_decide_eq_true hlt)]
        · exact fin _ (by rw [if_neg fun z => hlt (decide_eq_true z)])
      · have hne : (!decide (V.int (d : Int) = V.int 0)) = true := by
          rw [dint_ne (show (d : Int) ≠ 0 by omega)]
          rfl
        rw [hne]
        refine iteT ?_
        refine ⟨_, rfl, _, rfl, Or.inl ⟨_, rfl, _, rfl, _, _, rfl, rfl, (by show (0 : Int) < d; omega), _, _, rfl, ⟨d, c % d, ?_, ?_, rfl⟩, ?_⟩⟩
        · rfl
        · rw [← hg, Nat.gcd_comm c d, Nat.gcd_rec d c, Nat.gcd_comm]
        · show ((c : Int) % (d : Int)).toNat < (d : Int).toNat
          have := Int.emod_lt_of_pos (c : Int) (show (0 : Int) < d by omega)
          have := Int.emod_nonneg (c : Int) (show (d : Int) ≠ 0 by omega)
          omega
    · intro σ H Q Q' m h
      obtain ⟨v, e, q⟩ := h
      obtain ⟨z, b, e2, q2⟩ := q
      exact ⟨v, e, z, b, e2, m _ _ q2⟩
end
section
variable {P : Program} {w : World} {K : PySem.W.Frag} {mg : Str → Option Value} {base : Heap} {A : Ad}
def spDrawn (m n : Nat) : Sp := fun vs H Q _ => ∃ (p : Addr) (c : Nat), vs = [.ref p] ∧ Pot H p c ∧ c ≤ 90000 ∧ ∀ t b r H', Pr H' r t b n → Pot H' p (c + m) → SameBut p H H' → Q (.ref r) H'
theorem ok_law_drawn (T : Txt K mg A) : FnOk P w K mg base CX0 3 A.f_law_drawn A.d_law_drawn ["pot"] (spDrawn 4 50) := by
  refine T.F_law_drawn.ok sc_law_drawn (fun vs H Q E h => ?_) (fun cdv B outer s H vs Q E hr h => ?_)
  · obtain ⟨p, n, rfl, _⟩ := h
    rfl
  · obtain ⟨p, n, rfl, hP, hn, k⟩ := h
    have hr1 : Room 1 _ := hr.mono (by decide)
    refine ⟨_, pss_cons (ps_set (i := 1) sc_law_drawn.nd rfl (Or.inl rfl) (pe_call (ok_law_of T) hr rfl T.g_law_of T.F_law_of.kp T.b_law_of .nil pass0 (pa_cons (pv 0) (pa_cons (pe_lst
        (pa_cons pe_int (pa_cons pe_int (pa_cons pe_int (pa_cons (pe_un un_neg pe_int) (pa_cons pe_int (pa_cons pe_int (pa_cons (pe_un un_neg pe_int) (pa_cons pe_int
        (pa_cons (pe_op op_sub (pe_call (ok_law_take T) hr1 rfl T.g_law_take T.F_law_take.kp T.b_law_take .nil pass0 (pa_cons (pv 0) (pa_cons pe_int pa_nil))) pe_int) (pa_cons (pe_op op_powW pe_int pe_int) pa_nil))))))))))) pa_nil))))
      (pss_one (ps_ret (pe_tup (pa_cons (pv 1) (pa_cons (pe_call (ok_law_of T) hr rfl T.g_law_of T.F_law_of.kp T.b_law_of .nil pass0 (pa_cons (pv 0) (pa_cons (pe_lst
        (pa_cons pe_int (pa_cons pe_int (pa_cons pe_int (pa_cons pe_int (pa_cons pe_int (pa_cons pe_int
        (pa_cons (pe_op op_add pe_int (pe_call (ok_law_take T) hr1 rfl T.g_law_take T.F_law_take.kp T.b_law_take .nil pass0 (pa_cons (pv 0) (pa_cons pe_int pa_nil)))) pa_nil)))))))) pa_nil))) pa_nil))))), ?_⟩
    refine ⟨_, rfl, _, rfl, _, rfl, _, rfl, p, 200, n, rfl, (by decide), up_lt (n := 9000) (show (200 : Int).natAbs < 2 ^ 8 by decide) (by decide), hP, (by omega), fun r H1 r0 r1 hP1 s1 => ?_⟩
    refine ⟨_, _, rfl, rfl, _, _, rfl, rfl, ⟨by decide, by decide +kernel⟩, (by show 10 ≤ sizeLine; decide), fun l hl => ?_⟩
    obtain ⟨xs1, e1⟩ := hP1.lst
    refine ⟨p, l, _, n + 1, rfl, upd_same, (ne_of_none e1 hl).symm, by simp, by show 10 ≤ 1000; decide, hP1.same (same_new hl), (by omega), fun v H2 hv hP2 s2 => ?_⟩
    have h1 : ∀ v ∈ ([V.int 0, V.int 0, V.int 1, V.int (-1), V.int 2, V.int 3, V.int (-5), V.int 12, V.int (r - 100), V.int (10 ^ (12 : Int).toNat)] : List V), BI 50 v := by
      repeat (first | exact List.forall_mem_nil _ | refine List.forall_mem_cons.mpr ⟨⟨_, rfl, by first | decide | omega⟩, ?_⟩)
    obtain ⟨t, rfl, ht⟩ := h1 v hv
    refine ⟨_, rfl, _, rfl, _, rfl, p, 40, n + 1 + 1, rfl, (by decide), up_lt (n := 9000) (show (40 : Int).natAbs < 2 ^ 8 by decide) (by decide), hP2, (by omega), fun r' H3 r0' r1' hP3 s3 => ?_⟩
    refine ⟨_, _, rfl, rfl, (by show 7 ≤ sizeLine; decide), fun l' hl' => ?_⟩
    obtain ⟨xs3, e3⟩ := hP3.lst
    refine ⟨p, l', _, n + 1 + 1 + 1, rfl, upd_same, (ne_of_none e3 hl').symm, by simp, by show 7 ≤ 1000; decide, hP3.same (same_new hl'), (by omega), fun v' H4 hv' hP4 s4 => ?_⟩
    have h2 : ∀ v ∈ ([V.int 1, V.int 1, V.int 2, V.int 3, V.int 4, V.int 12, V.int (1 + r')] : List V), BP 50 v := by
      repeat (first | exact List.forall_mem_nil _ | refine List.forall_mem_cons.mpr ⟨⟨_, rfl, by first | decide | omega, by first | decide | omega⟩, ?_⟩)
    obtain ⟨b, rfl, hb0, hb⟩ := h2 v' hv'
    refine ⟨by show 2 ≤ sizeLine; decide, fun q hq => ?_⟩
    obtain ⟨xs4, e4⟩ := hP4.lst
    exact k t b q _ ⟨upd_same, ht, hb0, hb⟩ (hP4.same (same_new hq)) (((s1.same (same_new hl)).trans s2).trans ((s3.same (same_new hl')).trans (s4.same (same_new hq))))
def spNumber (A : Ad) : Sp := fun vs H Q _ => ∃ (r : Addr) (t b : Int) (n : Nat), vs = [.ref r] ∧ Pr H r t b n ∧ n ≤ 9000 ∧ ∀ x H', Same H H' → H x = none → Num A.c_Number H' x (Rat.divInt t b) → Q (.ref x) H'
theorem ok_law_number (T : Txt K mg A) : FnOk P w K mg base CX0 4 A.f_law_number A.d_law_number ["pair"] (spNumber A) := by
  refine T.F_law_number.ok sc_law_number (fun vs H Q E h => ?_) (fun cdv B outer s H vs Q E hr h => ?_)
  · obtain ⟨r, t, b, n, rfl, _⟩ := h
    rfl
  · obtain ⟨r, t, b, n, rfl, hp, hn, k⟩ := h
    refine ⟨_, pss_one (ps_ret (pe_make T.M_Number (ok_Number_init T) hr rfl T.g_Number (b_Number T) .nil pass0 (pa_cons (pe_ix ix_tup (pv 0) pe_int (fun _ _ => rfl)) (pa_cons (pe_ix ix_tup (pv 0) pe_int (fun _ _ => rfl)) pa_nil)))), ?_⟩
    refine ⟨_, rfl, r, _, _, _, rfl, rfl, SqT.of hp.at_, rfl, _, rfl, r, _, _, _, rfl, rfl, SqT.of hp.at_, rfl, ?_⟩
    intro x dx nx ndx nex
    refine ⟨x, dx, t, b, rfl, Int.ne_of_gt hp.pos, up_lt hp.lb hn, upd_same, rfl, ?_⟩
    have e := made_num (C := A.c_Number) (Rat.divInt t b) nx ndx
    exact k x _ e.1 nx e.2
theorem sub_div {a b c d : Int} (hb : b ≠ 0) (hd : d ≠ 0) : Rat.divInt (a * d - c * b) (b * d) = Rat.divInt a b - Rat.divInt c d := (Rat.divInt_sub_divInt a c hb hd).symm
theorem div_div {a b c d : Int} : Rat.divInt (a * d) (b * c) = Rat.divInt a b / Rat.divInt c d := by
  rw [Rat.div_def, Rat.inv_divInt, Rat.divInt_mul_divInt]
/-- _law_due(a, b, c, d) -/
def spDue : Sp := fun vs H Q _ => ∃ (ra rb rc rd : Addr) (a0 a1 b0 b1 c0 c1 d0 d1 : Int), vs = [.ref ra, .ref rb, .ref rc, .ref rd] ∧ Pr H ra a0 a1 50 ∧ Pr H rb b0 b1 50 ∧ Pr H rc c0 c1 50 ∧ Pr H rd d0 d1 50 ∧
  (Rat.divInt b0 b1 = Rat.divInt d0 d1 → Q .non H) ∧ (Rat.divInt b0 b1 ≠ Rat.divInt d0 d1 → ∀ r H', Same H H' → H r = none →
    H' r = some (.tup [.int ((Rat.divInt c0 c1 - Rat.divInt a0 a1) / (Rat.divInt b0 b1 - Rat.divInt d0 d1)).num, .int (((Rat.divInt c0 c1 - Rat.divInt a0 a1) / (Rat.divInt b0 b1 - Rat.divInt d0 d1)).den : Int)]) → Q (.ref r) H')
theorem ok_law_due (T : Txt K mg A) : FnOk P w K mg base CX0 2 A.f_law_due A.d_law_due ["a", "b", "c", "d"] spDue := by
  refine T.F_law_due.ok sc_law_due (fun vs H Q E h => ?_) (fun cdv B outer s H vs Q E hr h => ?_)
  · obtain ⟨ra, rb, rc, rd, a0, a1, b0, b1, c0, c1, d0, d1, rfl, _⟩ := h
    rfl
  · obtain ⟨ra, rb, rc, rd, a0, a1, b0, b1, c0, c1, d0, d1, rfl, ha, hb, hc, hd, k1, k2⟩ := h
    refine ⟨_, pss_cons (ps_par (i := 4) (j := 5) rfl sc_law_due.nd rfl rfl (by decide) rfl rfl (pa_cons (pe_op op_sub (pe_op op_mulW (pe_ix ix_tup (pv 2) pe_int (fun _ _ => rfl)) (pe_ix ix_tup (pv 0) pe_int (fun _ _ => rfl))) (pe_op op_mulW (pe_ix ix_tup (pv 0) pe_int (fun _ _ => rfl)) (pe_ix ix_tup (pv 2) pe_int (fun _ _ => rfl))))
        (pa_cons (pe_op op_mulW (pe_ix ix_tup (pv 2) pe_int (fun _ _ => rfl)) (pe_ix ix_tup (pv 0) pe_int (fun _ _ => rfl))) pa_nil)) (by rfl))
      (pss_cons (ps_par (i := 6) (j := 7) rfl sc_law_due.nd rfl rfl (by decide) rfl rfl (pa_cons (pe_op op_sub (pe_op op_mulW (pe_ix ix_tup (pv 1) pe_int (fun _ _ => rfl)) (pe_ix ix_tup (pv 3) pe_int (fun _ _ => rfl))) (pe_op op_mulW (pe_ix ix_tup (pv 3) pe_int (fun _ _ => rfl)) (pe_ix ix_tup (pv 1) pe_int (fun _ _ => rfl))))
        (pa_cons (pe_op op_mulW (pe_ix ix_tup (pv 1) pe_int (fun _ _ => rfl)) (pe_ix ix_tup (pv 3) pe_int (fun _ _ => rfl))) pa_nil)) (by rfl))
      (pss_one (ps_ret (pe_ifExp (pt_cmpR op_eq (pv 6) pe_int (nomark _)) pe_non (pe_call (ok_law_least T) hr rfl T.g_law_least T.F_law_least.kp T.b_law_least .nil pass0 (pa_cons (pe_op op_mulW (pv 4) (pv 7)) (pa_cons (pe_op op_mulW (pv 5) (pv 6)) pa_nil))))))), ?_⟩
    refine ⟨_, rfl, rc, _, _, _, rfl, rfl, SqT.of hc.at_, rfl, _, rfl, ra, _, _, _, rfl, rfl, SqT.of ha.at_, rfl, _, _, rfl, rfl, bdw hc.lt ha.lb, ?_⟩
    refine ⟨_, rfl, ra, _, _, _, rfl, rfl, SqT.of ha.at_, rfl, _, rfl, rc, _, _, _, rfl, rfl, SqT.of hc.at_, rfl, _, _, rfl, rfl, bdw ha.lt hc.lb, _, _, rfl, rfl, ?_⟩
    refine ⟨_, rfl, rc, _, _, _, rfl, rfl, SqT.of hc.at_, rfl, _, rfl, ra, _, _, _, rfl, rfl, SqT.of ha.at_, rfl, _, _, rfl, rfl, bdw hc.lb ha.lb, _, _, rfl, ?_⟩
    refine ⟨_, rfl, rb, _, _, _, rfl, rfl, SqT.of hb.at_, rfl, _, rfl, rd, _, _, _, rfl, rfl, SqT.of hd.at_, rfl, _, _, rfl, rfl, bdw hb.lt hd.lb, ?_⟩
    refine ⟨_, rfl, rd, _, _, _, rfl, rfl, SqT.of hd.at_, rfl, _, rfl, rb, _, _, _, rfl, rfl, SqT.of hb.at_, rfl, _, _, rfl, rfl, bdw hd.lt hb.lb, _, _, rfl, rfl, ?_⟩
    refine ⟨_, rfl, rb, _, _, _, rfl, rfl, SqT.of hb.at_, rfl, _, rfl, rd, _, _, _, rfl, rfl, SqT.of hd.at_, rfl, _, _, rfl, rfl, bdw hb.lb hd.lb, _, _, rfl, ?_⟩
    have e1 := sub_div (a := c0) (c := a0) (Int.ne_of_gt hc.pos) (Int.ne_of_gt ha.pos)
    have e2 := sub_div (a := b0) (c := d0) (Int.ne_of_gt hb.pos) (Int.ne_of_gt hd.pos)
    have n2 : b1 * d1 ≠ 0 := Int.mul_ne_zero (Int.ne_of_gt hb.pos) (Int.ne_of_gt hd.pos)
    have n1 : c1 * a1 ≠ 0 := Int.mul_ne_zero (Int.ne_of_gt hc.pos) (Int.ne_of_gt ha.pos)
    refine ⟨_, rfl, rfl, _, rfl, ?_⟩
    by_cases hz : b0 * d1 - d0 * b1 = 0
    · rw [dint_eq hz]
      refine iteT ?_
      refine k1 ?_
      rw [hz, Rat.zero_divInt] at e2
      rw [← Rat.sub_add_cancel (a := Rat.divInt b0 b1) (b := Rat.divInt d0 d1), ← e2, Rat.zero_add]
    · rw [dint_ne hz]
      refine iteF ?_
      have w1 : (c0 * a1 - a0 * c1).natAbs < 2 ^ 101 := isub_lt (imul_lt hc.lt ha.lb) (imul_lt ha.lt hc.lb)
      have w2 : (b0 * d1 - d0 * b1).natAbs < 2 ^ 101 := isub_lt (imul_lt hb.lt hd.lb) (imul_lt hd.lt hb.lb)
      have w3 : (b1 * d1).natAbs < 2 ^ 100 := imul_lt hb.lb hd.lb
      have w4 : (c1 * a1).natAbs < 2 ^ 100 := imul_lt hc.lb ha.lb
      refine ⟨_, rfl, _, rfl, _, _, rfl, rfl, bdw w1 w3, _, rfl, _, rfl, _, _, rfl, rfl, bdw w4 w2, ?_⟩
      refine ⟨_, _, rfl, Int.mul_ne_zero n1 hz, up_lt (imul_lt w4 w2) (by decide), fun r H' s1 nr hr' => ?_⟩
      rw [div_div, e1, e2] at hr'
      refine k2 (fun e => hz ?_) r H' s1 nr hr'
      have : Rat.divInt (b0 * d1 - d0 * b1) (b1 * d1) = 0 := by rw [e2, e, Rat.sub_self]
      have h := (Rat.divInt_eq_divInt_iff n2 (show (1 : Int) ≠ 0 by decide)).mp (this.trans (Rat.zero_divInt 1).symm)
      rw [Int.mul_one, Int.zero_mul] at h
      exact h
end
/-! ### where lines meet: plain fractions -/
theorem spot_eq (q : Rat) (k : Int) : Rat.divInt (q.num * 7 + (q.den : Int) * k) ((q.den : Int) * 7) = q + Rat.divInt k 7 := by
  conv => rhs; rw [← Rat.num_divInt_den q]
  rw [Rat.divInt_add_divInt _ _ (den_ne q) (show (7 : Int) ≠ 0 by decide), Int.mul_comm k]
theorem meet_sym {a b c d : Rat} (h : b ≠ d) : (a - c) / (d - b) = (c - a) / (b - d) := by
  have hne : b - d ≠ 0 := fun e0 => h (by rw [← Rat.sub_add_cancel (a := b) (b := d), e0, Rat.zero_add])
  have hne' : d - b ≠ 0 := fun e0 => h (by rw [← Rat.sub_add_cancel (a := d) (b := b), e0, Rat.zero_add])
  have h1 : (c - a) / (b - d) * (b - d) = c - a := Rat.div_mul_cancel hne
  have h2 : (a - c) / (d - b) * (d - b) = a - c := Rat.div_mul_cancel hne'
  generalize (c - a) / (b - d) = x at *
  generalize (a - c) / (d - b) = y at *
  have h3 : (y - x) * (b - d) = 0 := by grind
  rcases Rat.mul_eq_zero.mp h3 with h4 | h4
  · grind
  · exact absurd h4 hne
theorem meet_iff {a b c d e : Rat} (h : b ≠ d) : (a + b * ((c - a) / (b - d) + e) = c + d * ((c - a) / (b - d) + e)) ↔ e = 0 := by
  have hne : b - d ≠ 0 := fun e0 => h (by rw [← Rat.sub_add_cancel (a := b) (b := d), e0, Rat.zero_add])
  have hq : (c - a) / (b - d) * (b - d) = c - a := Rat.div_mul_cancel hne
  generalize (c - a) / (b - d) = q at *
  constructor
  · intro h1
    have h2 : e * (b - d) = 0 := by grind
    rcases Rat.mul_eq_zero.mp h2 with h3 | h3
    · exact h3
    · exact absurd h3 hne
  · intro h1
    subst h1
    grind
/-! ### one turn of the law -/
theorem same_mut {H0 H : Hp} {D : Addr} {o : HO} (s : Same H0 H) (h : H0 D = none) : Same H0 (upd H D o) := fun b u e => by
  rw [upd_ne (ne_of_none e h)]
  exact s b u e
theorem Num.upl {C D a : Addr} {H : Hp} {q : Rat} {xs : List V} {o : HO} (h : Num C H a q) (hD : H D = some (.lst xs)) : Num C (upd H D o) a q := h.but but_upd ⟨_, hD⟩
theorem memq {α : Type} {xs : List α} {i : Nat} {v : α} {R : α → Prop} (h : xs[i]? = some v) (hR : ∀ x ∈ xs, R x) : R v := hR v (List.mem_of_getElem? h)
theorem yes_of {σ : L2.St} {H : Hp} {Q : Bool → Hp → Prop} (h : Q true H) : tYes σ H Q := h
theorem get_nil {R : Prop} {j : Nat} {a : Addr} (h : ([] : List Addr)[j]? = some a) : R := by simp at h
theorem get_snoc {α : Type} {xs : List α} {y v : α} {j : Nat} (h : (xs ++ [y])[j]? = some v) : xs[j]? = some v ∨ (j = xs.length ∧ v = y) := by
  by_cases hj : j < xs.length
  · rw [List.getElem?_append_left hj] at h
    exact .inl h
  · rw [List.getElem?_append_right (by omega)] at h
    have : j - xs.length = 0 := by
      rcases Nat.eq_zero_or_pos (j - xs.length) with e | e
      · exact e
      · rw [List.getElem?_eq_none (by simpa using (show 1 ≤ j - xs.length from e))] at h
        cases h
    rw [this] at h
    exact .inr ⟨by omega, (Option.some.inj h).symm⟩
theorem get_map {xs : List Addr} {i : Nat} {v : V} (h : (xs.map V.ref)[i]? = some v) : ∃ a, xs[i]? = some a ∧ v = .ref a := by
  rw [List.getElem?_map] at h
  cases e : xs[i]? with
  | none => rw [e] at h; cases h
  | some a => rw [e] at h; exact ⟨a, rfl, (Option.some.inj h).symm⟩
theorem iteT' {c : Bool} {A B : Prop} (hc : c = true) (h : A) : if c = true then A else B := by
  rw [if_pos hc]
  exact h
theorem iteF' {c : Bool} {A B : Prop} (hc : c = false) (h : B) : if c = true then A else B := by
  rw [hc, if_neg Bool.false_ne_true]
  exact h
def kl : List Int := [0, 1, -1]
section
variable {P : Program} {w : World} {K : PySem.W.Frag} {mg : Str → Option Value} {base : Heap} {A : Ad}
theorem kb_meets (T : Txt K mg A) : KBn K A.d_Line_meets ["self", "other"] 1 ["other"] (fun us ws => us ++ ws) (fun vs zs => vs ++ zs) :=
  kbn_of T.F_Line_meets 1 ["other"] (fun us ws => us ++ ws) (fun r1 r2 => r1.append r2) fun kV dc pm an cd ct us ws l1 l2 => by
    match us, l1, ws, l2 with
    | [u1], _, [w1], _ => rfl
def spRight (m : Nat) : Sp := fun vs H Q _ => ∃ (p : Addr) (n : Nat), vs = [.ref p] ∧ Pot H p n ∧ n ≤ 80000 ∧ ∀ H', Pot H' p (n + m) → SameBut p H H' → Q (.bl true) H'
theorem ok_law_is_right (T : Txt K mg A) : FnOk P w K mg base CX0 7 A.f_law_is_right A.d_law_is_right ["pot"] (spRight 17) := by
  refine T.F_law_is_right.ok sc_law_is_right (fun vs H Q E h => ?_) (fun cdv B outer s H vs Q E hr h => ?_)
  · obtain ⟨p, n, rfl, _⟩ := h
    rfl
  · obtain ⟨p, n, rfl, hP, hn, k⟩ := h
    have hr1 : Room 1 _ := hr.mono (by decide)
    have hr2 : Room 2 _ := hr.mono (by decide)
    have hr3 : Room 3 _ := hr.mono (by decide)
    have hr4 : Room 4 _ := hr.mono (by decide)
    have hr5 : Room 5 _ := hr.mono (by decide)
    refine ⟨_, pss_cons (ps_par (i := 1) (j := 2) rfl sc_law_is_right.nd rfl rfl (by decide) rfl rfl (pa_cons (pe_call (ok_law_drawn T) hr3 rfl T.g_law_drawn T.F_law_drawn.kp T.b_law_drawn .nil pass0 (pa_cons (pv 0) pa_nil)) (pa_cons (pe_call (ok_law_drawn T) hr3 rfl T.g_law_drawn T.F_law_drawn.kp T.b_law_drawn .nil pass0 (pa_cons (pv 0) pa_nil)) pa_nil)) (by rfl))
      (pss_cons (ps_par (i := 3) (j := 4) rfl sc_law_is_right.nd rfl rfl (by decide) rfl rfl (pa_cons (pe_call (ok_law_drawn T) hr3 rfl T.g_law_drawn T.F_law_drawn.kp T.b_law_drawn .nil pass0 (pa_cons (pv 0) pa_nil)) (pa_cons (pe_call (ok_law_drawn T) hr3 rfl T.g_law_drawn T.F_law_drawn.kp T.b_law_drawn .nil pass0 (pa_cons (pv 0) pa_nil)) pa_nil)) (by rfl))
      (pss_cons (ps_set (i := 5) sc_law_is_right.nd rfl (Or.inl rfl) (pe_call (ok_law_take T) hr1 rfl T.g_law_take T.F_law_take.kp T.b_law_take .nil pass0 (pa_cons (pv 0) (pa_cons pe_int pa_nil))))
      (Evl.pss_cut (ps_if (pt_cmpR op_eq (pv 5) pe_int (nomark _)) (pss_one (ps_set (i := 4) sc_law_is_right.nd rfl (Or.inl rfl) (pv 2)))
        (pss_one (ps_if (pt_cmpR op_eq (pv 5) pe_int (nomark _)) (pss_one (ps_par (i := 3) (j := 4) rfl sc_law_is_right.nd rfl rfl (by decide) rfl rfl (pa_cons (pv 1) (pa_cons (pv 2) pa_nil)) (by rfl))) pss_nil)))
      (pss_cons (ps_set (i := 6) sc_law_is_right.nd rfl (Or.inr rfl) (pe_make T.M_Line (ok_Line_init T) hr2 rfl T.g_Line T.b_Line_init .nil pass0 (pa_cons (pe_call (ok_law_number T) hr4 rfl T.g_law_number T.F_law_number.kp T.b_law_number .nil pass0 (pa_cons (pv 1) pa_nil)) (pa_cons (pe_call (ok_law_number T) hr4 rfl T.g_law_number T.F_law_number.kp T.b_law_number .nil pass0 (pa_cons (pv 2) pa_nil)) pa_nil))))
      (pss_cons (ps_set (i := 7) sc_law_is_right.nd rfl (Or.inr rfl) (pe_make T.M_Line (ok_Line_init T) hr2 rfl T.g_Line T.b_Line_init .nil pass0 (pa_cons (pe_call (ok_law_number T) hr4 rfl T.g_law_number T.F_law_number.kp T.b_law_number .nil pass0 (pa_cons (pv 3) pa_nil)) (pa_cons (pe_call (ok_law_number T) hr4 rfl T.g_law_number T.F_law_number.kp T.b_law_number .nil pass0 (pa_cons (pv 4) pa_nil)) pa_nil))))
      (pss_cons (ps_set (i := 8) sc_law_is_right.nd rfl (Or.inr rfl) (pe_call (ok_law_due T) hr2 rfl T.g_law_due T.F_law_due.kp T.b_law_due .nil pass0 (pa_cons (pv 1) (pa_cons (pv 2) (pa_cons (pv 3) (pa_cons (pv 4) pa_nil))))))
      (pss_cons (ps_set (i := 9) sc_law_is_right.nd rfl (Or.inl rfl) (pe_lst (pa_cons (pe_meth (pv 6) T.cl_Line T.m_Line_meets (ok_Line_meets T) hr5 T.b_Line_meets .nil pass0 (pa_cons (pv 7) pa_nil)) (pa_cons (pe_meth (pv 7) T.cl_Line T.m_Line_meets (ok_Line_meets T) hr5 T.b_Line_meets .nil pass0 (pa_cons (pv 6) pa_nil))
          (pa_cons (pe_methK0 (pv 6) T.cl_Line T.m_Line_meets (ok_Line_meets T) hr5 (kb_meets T) pass0 (pk_cons (pv 7) pk_nil)) pa_nil)))))
      (pss_cons (ps_if (pt_cmp (pc_isN (pv 8))) (pss_one (ps_ret (pe_cmpR (op_eqD hr.units) (pv 9) (pe_op op_rep (pe_lst (pa_cons pe_non pa_nil)) pe_int) (nomark _)))) pss_nil)
      (pss_cons (ps_for PassesOwn.never rfl (pi_list (pv 9)) (pg_name (i := 10) sc_law_is_right.nd rfl (Or.inl rfl)) (pss_one (ps_if (PW.pt (pw_or (pt_not (pt_val (pe_callB call_isi (by rfl) T.z_isinstance (by decide +kernel) (pa_cons (pv 10) (pa_cons (pe_glob (v := .ref A.c_Number) (by rfl) T.g_Number rfl) pa_nil)))))
          (pw_or1 (pt_cmpR (op_neD hr.units) (pe_tup (pa_cons (pe_prop (pv 10) T.cl_Number T.P_Number_top (ok_Number_top T) hr2 T.b_Number_top .nil pass0 rfl) (pa_cons (pe_prop (pv 10) T.cl_Number T.P_Number_bottom (ok_Number_bottom T) hr2 T.b_Number_bottom .nil pass0 rfl) pa_nil))) (pv 8) (nomark _))))) (pss_one (ps_ret pe_bl)) pss_nil)))
      (pss_cons (ps_setLc (i := 11) (own := [("k", 12)]) (g := gName 12) (tt := tYes) rfl sc_law_is_right.nd rfl rfl (sw_true rfl rfl rfl (by decide +kernel)) (pi_tup (pe_tup (pa_cons pe_int (pa_cons pe_int (pa_cons (pe_un un_neg pe_int) pa_nil)))))
          (blkOk_by (N := N_law_is_right) (sc := defScope s_law_is_right) (by decide +kernel)) (fun _ _ _ _ _ => pg_name (i := 12) sc_law_is_right.nd rfl (Or.inl rfl)) (fun _ _ _ _ _ => pts_nil)
          (fun _ _ _ _ _ => pe_make T.M_Number (ok_Number_init T) hr3 rfl T.g_Number (b_Number T) .nil pass0 (pa_cons (pe_op op_add (pe_op op_mul (pe_ix (ixT K) (pv 8) pe_int (fun _ _ => rfl)) pe_int) (pe_op op_mul (pe_ix (ixT K) (pv 8) pe_int (fun _ _ => rfl)) (pv 12))) (pa_cons (pe_op op_mul (pe_ix (ixT K) (pv 8) pe_int (fun _ _ => rfl)) pe_int) pa_nil))))
      (pss_cons (ps_setLc (i := 13) (own := [("s", 10)]) (g := gName 10) (tt := tYes) rfl sc_law_is_right.nd rfl rfl (sw_true rfl rfl rfl (by decide +kernel)) (pi_list (pv 11))
          (blkOk_by (N := N_law_is_right) (sc := defScope s_law_is_right) (by decide +kernel)) (fun _ _ _ _ _ => pg_name (i := 10) sc_law_is_right.nd rfl (Or.inl rfl)) (fun _ _ _ _ _ => pts_nil)
          (fun _ _ _ _ _ => pe_tup (pa_cons (pe_callI (pv 6) T.co_Line_call (ok_Line_call T) hr5 T.b_Line_call .nil pass0 (pa_cons (pv 10) pa_nil)) (pa_cons (pe_callI (pv 7) T.co_Line_call (ok_Line_call T) hr5 T.b_Line_call .nil pass0 (pa_cons (pv 10) pa_nil)) pa_nil))))
      (pss_cons (ps_for PassesOwn.never rfl (pi_list (pv 13)) (pg_tup rfl (pgs_cons (pg_name (i := 14) sc_law_is_right.nd rfl (Or.inl rfl)) (pgs_cons (pg_name (i := 15) sc_law_is_right.nd rfl (Or.inl rfl)) pgs_nil)))
          (pss_one (ps_if (PW.pt (pw_or (pt_not (pt_val (pe_callB call_isi (by rfl) T.z_isinstance (by decide +kernel) (pa_cons (pv 14) (pa_cons (pe_glob (v := .ref A.c_Number) (by rfl) T.g_Number rfl) pa_nil)))))
            (pw_or1 (pt_not (pt_val (pe_callB call_isi (by rfl) T.z_isinstance (by decide +kernel) (pa_cons (pv 15) (pa_cons (pe_glob (v := .ref A.c_Number) (by rfl) T.g_Number rfl) pa_nil)))))))) (pss_one (ps_ret pe_bl)) pss_nil)))
      (pss_one (ps_ret (pe_cmpR (op_eqD hr.units) (pe_lc (own := [("one", 14), ("two", 15)])  (tt := tYes)  rfl sc_law_is_right.nd (pi_list (pv 13))
          (blkOk_by (N := N_law_is_right) (sc := defScope s_law_is_right) (by decide +kernel)) (fun _ _ _ _ _ => pgTup K 2 rfl (pgs_cons (pg_name (i := 14) sc_law_is_right.nd rfl (Or.inl rfl)) (pgs_cons (pg_name (i := 15) sc_law_is_right.nd rfl (Or.inl rfl)) pgs_nil))) (fun _ _ _ _ _ => pts_nil)
          (fun _ _ _ _ _ => pe_cmpR (opOwnEq K (ok_Number_eq T) T.b_Number_eq T.m_Number_eq.at_ T.m_Number_eq.fn hr1 pass0) (pv 14) (pv 15) (nomark _))) (pe_lst (pa_cons pe_bl (pa_cons pe_bl (pa_cons pe_bl pa_nil)))) (nomark _)))))))))))))))), ?_⟩
    -- a, b; c, d; way
    refine ⟨_, rfl, p, n, rfl, hP, (by omega), fun a0 a1 ra H1 ha hP1 s1 => ?_⟩
    refine ⟨_, rfl, p, _, rfl, hP1, (by omega), fun b0 b1 rb H2 hb hP2 s2 => ⟨_, _, rfl, ?_⟩⟩
    refine ⟨_, rfl, p, _, rfl, hP2, (by omega), fun c0' c1' rc' H3 hc' hP3 s3 => ?_⟩
    refine ⟨_, rfl, p, _, rfl, hP3, (by omega), fun d0' d1' rd' H4 hd' hP4 s4 => ⟨_, _, rfl, ?_⟩⟩
    refine ⟨_, rfl, p, 4, _, rfl, (by decide), up_lt (n := 9000) (show (4 : Int).natAbs < 2 ^ 8 by decide) (by decide), hP4, (by omega), fun way H5 w0 w1 hP5 s5 => ?_⟩
    have ha5 : Pr H5 ra a0 a1 50 := ha.but (s2.trans (s3.trans (s4.trans s5))) hP1.lst
    have hb5 : Pr H5 rb b0 b1 50 := hb.but (s3.trans (s4.trans s5)) hP2.lst
    have hc5 : Pr H5 rc' c0' c1' 50 := hc'.but (s4.trans s5) hP3.lst
    have hd5 : Pr H5 rd' d0' d1' 50 := hd'.but s5 hP4.lst
    have sb5 : SameBut p H H5 := s1.trans (s2.trans (s3.trans (s4.trans s5)))
    refine ⟨fun σ' H' => ∃ (rc rd : Addr) (c0 c1 d0 d1 : Int), σ' = [some (.ref p), some (.ref ra), some (.ref rb), some (.ref rc), some (.ref rd), some (.int way), none, none, none, none, none, none, none, none, none, none] ∧ H' = H5 ∧ Pr H5 rc c0 c1 50 ∧ Pr H5 rd d0 d1 50, ?_, ?_⟩
    · refine ⟨_, rfl, rfl, _, rfl, ?_⟩
      refine ite2 (fun _ => ?_) (fun _ => ?_)
      · exact ⟨_, rfl, _, _, _, _, _, _, rfl, rfl, hc5, hb5⟩
      · refine ⟨_, rfl, rfl, _, rfl, ?_⟩
        refine ite2 (fun _ => ?_) (fun _ => ?_)
        · exact ⟨_, rfl, _, rfl, _, _, rfl, _, _, _, _, _, _, rfl, rfl, ha5, hb5⟩
        · exact ⟨_, _, _, _, _, _, rfl, rfl, hc5, hd5⟩
    rintro σ' H' ⟨rc, rd, c0, c1, d0, d1, rfl, rfl, hc5', hd5'⟩
    have qa := ha5.bd
    have qb := hb5.bd
    have qc := hc5'.bd
    have qd := hd5'.bd
    -- first, mate
    refine ⟨_, rfl, ra, a0, a1, 50, rfl, ha5, (by decide), fun x1 H6 t6 nx1 hx1 => ?_⟩
    refine ⟨_, rfl, rb, b0, b1, 50, rfl, hb5.same t6, (by decide), fun x2 H7 t7 nx2 hx2 => ?_⟩
    intro f1 dx1 nf1 ndx1 nex1
    refine ⟨f1, dx1, x1, x2, rfl, upd_same, rfl, ?_⟩
    obtain ⟨t8, L1⟩ := made_lin (A := A) (hx1.mono t7) hx2 nf1 ndx1
    generalize upd (upd (upd H7 dx1 (.own f1)) f1 (.ins A.c_Line dx1 [])) f1 (.ins A.c_Line dx1 (lf x1 x2)) = H8 at *
    have u8 : Same _ H8 := t6.trans (t7.trans t8)
    refine ⟨_, rfl, rc, c0, c1, 50, rfl, hc5'.same u8, (by decide), fun x3 H9 t9 nx3 hx3 => ?_⟩
    refine ⟨_, rfl, rd, d0, d1, 50, rfl, hd5'.same (u8.trans t9), (by decide), fun x4 H10 t10 nx4 hx4 => ?_⟩
    intro f2 dx2 nf2 ndx2 nex2
    refine ⟨f2, dx2, x3, x4, rfl, upd_same, rfl, ?_⟩
    obtain ⟨t11, L2⟩ := made_lin (A := A) (hx3.mono t10) hx4 nf2 ndx2
    generalize upd (upd (upd H10 dx2 (.own f2)) f2 (.ins A.c_Line dx2 [])) f2 (.ins A.c_Line dx2 (lf x3 x4)) = H11 at *
    have u11 : Same _ H11 := u8.trans (t9.trans (t10.trans t11))
    have L1' : Lin A H11 f1 _ _ := L1.mono (t9.trans (t10.trans t11))
    -- due
    refine ⟨_, rfl, _, rfl, _, rfl, _, rfl, ra, rb, rc, rd, a0, a1, b0, b1, c0, c1, d0, d1, rfl, ha5.same u11, hb5.same u11, hc5'.same u11, hd5'.same u11, fun heq => ?_, fun hne r H12 t12 nr hr12 => ?_⟩
    · -- no place
      obtain ⟨d1', p1', q1', g1, _⟩ := id L1'.ex
      obtain ⟨d2', p2', q2', g2, _⟩ := id L2.ex
      refine ⟨_, rfl, f1, _, _, rfl, g1, lf_no _ _ (by decide +kernel) (by decide +kernel), _, rfl, f1, f2, _, _, _, _, rfl, L1', L2, qa.mono (by decide), qb.mono (by decide), qc.mono (by decide), qd.mono (by decide), fun _ => ?_, fun z => absurd heq z⟩
      refine ⟨_, rfl, f2, _, _, rfl, g2, lf_no _ _ (by decide +kernel) (by decide +kernel), _, rfl, f2, f1, _, _, _, _, rfl, L2, L1', qc.mono (by decide), qd.mono (by decide), qa.mono (by decide), qb.mono (by decide), fun _ => ?_, fun z => absurd heq.symm z⟩
      refine ⟨_, rfl, f1, _, _, rfl, g1, lf_no _ _ (by decide +kernel) (by decide +kernel), _, rfl, rfl, rfl, f1, f2, _, _, _, _, rfl, L1', L2, qa.mono (by decide), qb.mono (by decide), qc.mono (by decide), qd.mono (by decide), fun _ => ?_, fun z => absurd heq z⟩
      refine ⟨by show 3 ≤ sizeLine; decide, fun l hl => ?_⟩
      refine ⟨_, rfl, _, rfl, ?_⟩
      refine iteT' (decide_eq_true rfl) ?_
      refine ⟨_, rfl, (by show 1 ≤ sizeLine; decide), fun l2 hl2 => ⟨l2, 3, _, rfl, rfl, upd_same, by decide, by decide, by show 1 * 3 ≤ sizeLine; decide, fun l3 hl3 => ?_⟩⟩
      refine ⟨.list [.none, .none, .none], .list [.none, .none, .none], .lst (SqL.of ?_) (.cons .non (.cons .non (.cons .non .nil))), .lst (SqL.of upd_same) (.cons .non (.cons .non (.cons .non .nil))), rfl, rfl, ?_⟩
      · have h1 : (upd H11 l (.lst [V.non, V.non, V.non])) l = some (.lst [V.non, V.non, V.non]) := upd_same
        exact same_new hl3 _ _ (same_new hl2 _ _ h1)
      · exact k _ ((hP5.same u11).same ((same_new hl).trans ((same_new hl2).trans (same_new hl3))) |>.mono (by omega)) ((sb5.same u11).same ((same_new hl).trans ((same_new hl2).trans (same_new hl3))))
    · -- one place
      have hne0 : Rat.divInt b0 b1 - Rat.divInt d0 d1 ≠ 0 := fun e0 => hne (by rw [← Rat.sub_add_cancel (a := Rat.divInt b0 b1) (b := Rat.divInt d0 d1), e0, Rat.zero_add])
      have bq : Bd 202 ((Rat.divInt c0 c1 - Rat.divInt a0 a1) / (Rat.divInt b0 b1 - Rat.divInt d0 d1)) := (qc.sub qa).div (qb.sub qd) hne0
      have L1a := L1'.mono t12
      have L2a := L2.mono t12
      have sb12 : SameBut p H H12 := (sb5.same u11).same t12
      have hP12 := (hP5.same u11).same t12
      clear L1' L2 L1 hx1 hx2 hx3 hx4
      generalize Rat.divInt a0 a1 = ya at *
      generalize Rat.divInt b0 b1 = yb at *
      generalize Rat.divInt c0 c1 = yc at *
      generalize Rat.divInt d0 d1 = yd at *
      have hsym : (ya - yc) / (yd - yb) = (yc - ya) / (yb - yd) := meet_sym hne
      have hiff : ∀ e : Rat, (ya + yb * ((yc - ya) / (yb - yd) + e) = yc + yd * ((yc - ya) / (yb - yd) + e)) ↔ e = 0 := fun e => meet_iff hne
      obtain ⟨d1', p1', q1', g1, _⟩ := id L1a.ex
      obtain ⟨d2', p2', q2', g2, _⟩ := id L2a.ex
      refine ⟨_, rfl, f1, _, _, rfl, g1, lf_no _ _ (by decide +kernel) (by decide +kernel), _, rfl, f1, f2, _, _, _, _, rfl, L1a, L2a, qa.mono (by decide), qb.mono (by decide), qc.mono (by decide), qd.mono (by decide), fun z => absurd z hne, fun _ m1 H13 t13 hm1 => ?_⟩
      refine ⟨_, rfl, f2, _, _, rfl, t13 _ _ g2, lf_no _ _ (by decide +kernel) (by decide +kernel), _, rfl, f2, f1, _, _, _, _, rfl, L2a.mono t13, L1a.mono t13, qc.mono (by decide), qd.mono (by decide), qa.mono (by decide), qb.mono (by decide), fun z => absurd z.symm hne, fun _ m2 H14 t14 hm2 => ?_⟩
      refine ⟨_, rfl, f1, _, _, rfl, t14 _ _ (t13 _ _ g1), lf_no _ _ (by decide +kernel) (by decide +kernel), _, rfl, rfl, rfl, f1, f2, _, _, _, _, rfl, L1a.mono (t13.trans t14), L2a.mono (t13.trans t14), qa.mono (by decide), qb.mono (by decide), qc.mono (by decide), qd.mono (by decide), fun z => absurd z hne, fun _ m3 H15 t15 hm3 => ?_⟩
      rw [hsym] at hm2
      generalize (yc - ya) / (yb - yd) = q at *
      refine ⟨by show 3 ≤ sizeLine; decide, fun l hl => ?_⟩
      have t16 : Same H12 (upd H15 l (.lst [.ref m1, .ref m2, .ref m3])) := t13.trans (t14.trans (t15.trans (same_new hl)))
      have hms : ∀ y ∈ ([V.ref m1, V.ref m2, V.ref m3] : List V), ∃ x, y = V.ref x ∧ Num A.c_Number (upd H15 l (.lst [.ref m1, .ref m2, .ref m3])) x q := by
        refine List.forall_mem_cons.mpr ⟨⟨_, rfl, hm1.mono (t14.trans (t15.trans (same_new hl)))⟩, List.forall_mem_cons.mpr ⟨⟨_, rfl, hm2.mono (t15.trans (same_new hl))⟩, List.forall_mem_cons.mpr ⟨⟨_, rfl, hm3.mono (same_new hl)⟩, List.forall_mem_nil _⟩⟩⟩
      have hl16 : (upd H15 l (.lst [.ref m1, .ref m2, .ref m3])) l = some (.lst [.ref m1, .ref m2, .ref m3]) := upd_same
      generalize upd H15 l (.lst [.ref m1, .ref m2, .ref m3]) = H16 at *
      have hr16 := t16 _ _ hr12
      -- if due is None
      refine ⟨_, rfl, _, rfl, ?_⟩
      refine iteF' (decide_eq_false fun z => nomatch z) ?_
      -- for s in found
      refine ⟨_, rfl, l, rfl, ⟨_, SqL.of hl16⟩, for_list (K := K) (a := l) (xs := [.ref m1, .ref m2, .ref m3]) (fun i σ H' => ∃ v, σ = [some (.ref p), some (.ref ra), some (.ref rb), some (.ref rc), some (.ref rd), some (.int way), some (.ref f1), some (.ref f2), some (.ref r), some (.ref l), v, none, none, none, none, none] ∧ Same H16 H')
        ⟨none, rfl, Same.refl _⟩ (fun i σ H' _ ⟨_, _, z⟩ => SqL.of (z _ _ hl16)) ?_ ?_⟩
      · rintro i y σ H' hi ⟨v, rfl, z⟩
        obtain ⟨x, rfl, hx⟩ := memq hi hms
        obtain ⟨dx, ex⟩ := hx.mono z
        refine ⟨_, rfl, _, _, _, _, true, rfl, .own _, .base (.ins ex T.cl_Number T.ca_Number T.cn T.ct T.cm_Number), T.kit_NumNum, true, rfl, ?_⟩
        refine iteF ?_
        refine ⟨_, rfl, x, dx, _, rfl, ex, x, dx, _, _, rfl, ex, nf_top q, _, rfl, x, dx, _, rfl, ex, x, dx, _, _, rfl, ex, nf_bot q, (by show 2 ≤ sizeLine; decide), fun tt ht => ?_⟩
        refine ⟨_, rfl, .tuple [.int q.num, .int (q.den : Int)], .tuple [.int q.num, .int (q.den : Int)], .tup (SqT.of upd_same) (.cons (.int _) (.cons (.int _) .nil)), .tup (SqT.of (same_new ht _ _ (z _ _ hr16))) (.cons (.int _) (.cons (.int _) .nil)), rfl, rfl, _, rfl, ?_⟩
        refine iteF' (by rw [SeqAt.eqv_refl _ rfl]; rfl) ?_
        exact ⟨_, rfl, z.trans (same_new ht)⟩
      rintro σ H17 ⟨v, rfl, z17⟩
      -- spots
      refine ⟨_, rfl, (by show 3 ≤ sizeLine; decide), fun tk htk => ?_⟩
      have t18 := z17.trans (same_new (o := .tup (kl.map V.int)) htk)
      have hk18 : (upd H17 tk (.tup (kl.map V.int))) tk = some (.tup (kl.map V.int)) := upd_same
      have hr18 := t18 _ _ hr16
      refine ⟨tk, rfl, ⟨_, SqT.of hk18⟩, fun D nD => lc_tup (K := K) (a := tk) (xs := kl.map V.int) (fun i Hh => Same (upd H17 tk (.tup (kl.map V.int))) Hh ∧ ∃ acc : List Addr, acc.length = i ∧ Hh D = some (.lst (acc.map V.ref)) ∧ ∀ j a, acc[j]? = some a → ∃ kk, kl[j]? = some kk ∧ Num A.c_Number Hh a (q + Rat.divInt kk 7))
        ⟨same_new nD, [], rfl, upd_same, fun j a h => get_nil h⟩ (fun i Hh _ hh => SqT.of (hh.1 _ _ hk18)) ?_ ?_⟩
      · rintro i y Hh hi ⟨z, acc, la, hD, hacc⟩
        have hi' : (kl.map V.int)[i]? = some y := hi
        rw [List.getElem?_map] at hi'
        obtain ⟨kk, hkk, rfl⟩ : ∃ kk, kl[i]? = some kk ∧ y = V.int kk := by
          cases e : kl[i]? with
          | none => rw [e] at hi'; cases hi'
          | some kk => rw [e] at hi'; exact ⟨kk, rfl, (Option.some.inj hi').symm⟩
        have hkb : -(2 ^ 64) < kk ∧ kk < 2 ^ 64 := memq (R := fun kk : Int => -(2 ^ 64) < kk ∧ kk < 2 ^ 64) hkk (by decide)
        have hrh := z _ _ hr18
        refine ⟨rfl, yes_of ?_⟩
        refine iteT ?_
        refine ⟨_, rfl, r, _, _, _, rfl, rfl, SqT.of hrh, rfl, _, _, rfl, rfl, Or.inr (by decide), _, rfl, r, _, _, _, rfl, rfl, SqT.of hrh, rfl, _, rfl, _, _, rfl, rfl, Or.inr hkb, _, _, rfl, rfl, ?_⟩
        refine ⟨_, rfl, r, _, _, _, rfl, rfl, SqT.of hrh, rfl, _, _, rfl, rfl, Or.inr (by decide), ?_⟩
        intro x dx nx ndx nex
        refine ⟨x, dx, _, _, rfl, Int.mul_ne_zero (den_ne q) (by decide), up_lt (m := 210) (imul_lt (n := 8) bq.den' (by decide)) (by decide), upd_same, rfl, ?_⟩
        obtain ⟨sm, hm⟩ := made_num (C := A.c_Number) (Rat.divInt (q.num * 7 + (q.den : Int) * kk) ((q.den : Int) * 7)) nx ndx
        generalize upd (upd (upd Hh dx (.own x)) x (.ins A.c_Number dx [])) x (.ins A.c_Number dx (nf (Rat.divInt (q.num * 7 + (q.den : Int) * kk) ((q.den : Int) * 7)))) = H4 at *
        rw [spot_eq] at hm
        have hD4 := sm _ _ hD
        refine ⟨acc.map V.ref, hD4, ?_, same_mut (z.trans sm) nD, acc ++ [x], by rw [List.length_append, la]; rfl, by rw [upd_same, List.map_append]; rfl, fun j a hj => ?_⟩
        · have hl3 : i < kl.length := (List.getElem?_eq_some_iff.mp hkk).1
          rw [List.length_map, la]
          exact Nat.lt_trans hl3 (by decide)
        · rcases get_snoc hj with h1 | ⟨h1, h2⟩
          · obtain ⟨k2, h3, h4⟩ := hacc j a h1
            exact ⟨k2, h3, (h4.mono sm).upl hD4⟩
          · subst h2
            rw [h1, la]
            exact ⟨kk, hkk, hm.upl hD4⟩
      rintro H19 ⟨z19, acc, la, hD, hacc⟩
      have la3 : acc.length = 3 := la
      have t19 := t18.trans z19
      have hqs : ∀ kk ∈ kl, Bd 8 (Rat.divInt kk 7) := by
        have h : ∀ kk ∈ kl, kk.natAbs < 2 ^ 8 := by decide
        exact fun kk hm => Bd.mk' (by decide) (h kk hm) (by decide)
      -- told
      refine ⟨_, rfl, D, rfl, ⟨_, SqL.of hD⟩, fun D2 nD2 => lc_list (K := K) (a := D) (xs := acc.map V.ref) (fun i Hh => Same H19 Hh ∧ ∃ tacc : List Addr, tacc.length = i ∧ Hh D2 = some (.lst (tacc.map V.ref)) ∧
          ∀ j a, tacc[j]? = some a → ∃ kk x y, kl[j]? = some kk ∧ Hh a = some (.tup [.ref x, .ref y]) ∧ Num A.c_Number Hh x (ya + yb * (q + Rat.divInt kk 7)) ∧ Num A.c_Number Hh y (yc + yd * (q + Rat.divInt kk 7)))
        ⟨same_new nD2, [], rfl, upd_same, fun j a h => get_nil h⟩ (fun i Hh _ hh => SqL.of (hh.1 _ _ hD)) ?_ ?_⟩
      · rintro i y Hh hi ⟨z, tacc, lt, hD2, htacc⟩
        obtain ⟨a, hai, rfl⟩ := get_map hi
        obtain ⟨kk, hkk, hna⟩ := hacc i a hai
        have hna := hna.mono z
        have bs : Bd 1000 (q + Rat.divInt kk 7) := (bq.add (memq (R := fun kk : Int => Bd 8 (Rat.divInt kk 7)) hkk hqs)).mono (by decide)
        have La := L1a.mono (t16.trans (t19.trans z))
        have Lb := L2a.mono (t16.trans (t19.trans z))
        obtain ⟨e1, p1'', q1'', g1', _⟩ := id La.ex
        obtain ⟨e2, p2'', q2'', g2', _⟩ := id Lb.ex
        refine ⟨rfl, yes_of ?_⟩
        refine iteT ?_
        refine ⟨_, rfl, f1, rfl, _, rfl, _, _, g1', f1, a, _, _, _, rfl, La, hna, qa.mono (by decide), qb.mono (by decide), bs, fun w1 G1 s1' hw1 => ?_⟩
        refine ⟨_, rfl, f2, rfl, _, rfl, _, _, s1' _ _ g2', f2, a, _, _, _, rfl, Lb.mono s1', hna.mono s1', qc.mono (by decide), qd.mono (by decide), bs, fun w2 G2 s2' hw2 => ?_⟩
        refine ⟨by show 2 ≤ sizeLine; decide, fun tt ht => ?_⟩
        have s12 : Same Hh (upd G2 tt (.tup [.ref w1, .ref w2])) := s1'.trans (s2'.trans (same_new ht))
        have hw1' := hw1.mono (s2'.trans (same_new (o := .tup [.ref w1, .ref w2]) ht))
        have hw2' := hw2.mono (same_new (o := .tup [.ref w1, .ref w2]) ht)
        have htt : (upd G2 tt (.tup [.ref w1, .ref w2])) tt = some (.tup [.ref w1, .ref w2]) := upd_same
        generalize upd G2 tt (.tup [.ref w1, .ref w2]) = G3 at *
        have hD3 := s12 _ _ hD2
        have hne3 : tt ≠ D2 := ne_of htt hD3 (by intro z; cases z)
        refine ⟨tacc.map V.ref, hD3, ?_, same_mut (z.trans s12) nD2, tacc ++ [tt], by rw [List.length_append, lt]; rfl, by rw [upd_same, List.map_append]; rfl, fun j b hj => ?_⟩
        · have hl3 : i < kl.length := (List.getElem?_eq_some_iff.mp hkk).1
          rw [List.length_map, lt]
          exact Nat.lt_trans hl3 (by decide)
        · rcases get_snoc hj with h1 | ⟨h1, h2⟩
          · obtain ⟨k2, x2, y2, h3, h4, h5, h6⟩ := htacc j b h1
            have h4' := s12 _ _ h4
            exact ⟨k2, x2, y2, h3, by rw [upd_ne (ne_of h4' hD3 (by intro z; cases z))]; exact h4', (h5.mono s12).upl hD3, (h6.mono s12).upl hD3⟩
          · subst h2
            rw [h1, lt]
            exact ⟨kk, w1, w2, hkk, by rw [upd_ne hne3]; exact htt, hw1'.upl hD3, hw2'.upl hD3⟩
      rintro H20 ⟨z20, tacc, lt, hD2, htacc⟩
      have lt3 : tacc.length = 3 := by rw [lt, List.length_map, la3]
      -- for one, two in told
      refine ⟨_, rfl, D2, rfl, ⟨_, SqL.of hD2⟩, for_list (K := K) (a := D2) (xs := tacc.map V.ref) (fun i σ H' => ∃ v w v', σ = [some (.ref p), some (.ref ra), some (.ref rb), some (.ref rc), some (.ref rd), some (.int way), some (.ref f1), some (.ref f2), some (.ref r), some (.ref l), v', some (.ref D), none, some (.ref D2), v, w] ∧ Same H20 H')
        ⟨none, none, _, rfl, Same.refl _⟩ (fun i σ H' _ hh => by obtain ⟨_, _, _, _, z⟩ := hh; exact SqL.of (z _ _ hD2)) ?_ ?_⟩
      · rintro i y σ H' hi ⟨v, w', v', rfl, z⟩
        obtain ⟨a, hai, rfl⟩ := get_map hi
        obtain ⟨kk, x, y, hkk, h4, h5, h6⟩ := htacc i a hai
        obtain ⟨dx, ex⟩ := h5.mono z
        obtain ⟨dy, ey⟩ := h6.mono z
        refine ⟨a, _, rfl, SqT.of (z _ _ h4), rfl, _, _, rfl, _, _, rfl, rfl, ?_⟩
        refine ⟨_, rfl, _, _, _, _, true, rfl, .own _, .base (.ins ex T.cl_Number T.ca_Number T.cn T.ct T.cm_Number), T.kit_NumNum, true, rfl, ?_⟩
        refine iteF ?_
        refine ⟨_, rfl, _, _, _, _, true, rfl, .own _, .base (.ins ey T.cl_Number T.ca_Number T.cn T.ct T.cm_Number), T.kit_NumNum, true, rfl, ?_⟩
        refine iteF ?_
        exact ⟨_, _, _, rfl, z⟩
      rintro σ H21 ⟨v, w', v', rfl, z21⟩
      -- [one == two ..] == [True, False, False]
      refine ⟨_, rfl, D2, rfl, ⟨_, SqL.of (z21 _ _ hD2)⟩, fun D3 nD3 => lc_list (K := K) (a := D2) (xs := tacc.map V.ref) (fun i Hh => Same H21 Hh ∧ Hh D3 = some (.lst (((kl.take i).map fun kk => decide (kk = 0)).map V.bl)))
        ⟨same_new nD3, upd_same⟩ (fun i Hh _ hh => SqL.of (hh.1 _ _ (z21 _ _ hD2))) ?_ ?_⟩
      · rintro i y Hh hi ⟨z, hD3⟩
        obtain ⟨a, hai, rfl⟩ := get_map hi
        obtain ⟨kk, x, y, hkk, h4, h5, h6⟩ := htacc i a hai
        have zz := z21.trans z
        obtain ⟨dx, ex⟩ := h5.mono zz
        obtain ⟨dy, ey⟩ := h6.mono zz
        refine ⟨a, _, rfl, SqT.of (zz _ _ h4), rfl, _, _, rfl, _, _, rfl, rfl, ?_⟩
        refine ⟨rfl, yes_of ?_⟩
        refine iteT ?_
        refine ⟨_, rfl, _, rfl, x, _, _, _, rfl, ex, .base (.ins ey T.cl_Number T.ca_Number T.cn T.ct T.cm_Number), (by simp [PySem.W.notFirst]), x, y, _, _, rfl, ⟨_, ex⟩, ⟨_, ey⟩, ?_⟩
        refine ⟨_, hD3, ?_, same_mut z nD3, ?_⟩
        · rw [List.length_map, List.length_map]
          exact Nat.lt_of_le_of_lt (Nat.le_trans (List.length_take_le' _ _) (by decide : kl.length ≤ 3)) (by decide)
        · have he : (decide (ya + yb * (q + Rat.divInt kk 7) = yc + yd * (q + Rat.divInt kk 7))) = decide (kk = 0) := by
            have h7 : Rat.divInt kk 7 = 0 ↔ kk = 0 := ⟨fun e => by
              have h := (Rat.divInt_eq_divInt_iff (show (7 : Int) ≠ 0 by decide) (show (1 : Int) ≠ 0 by decide)).mp (e.trans (Rat.zero_divInt 1).symm)
              rw [Int.mul_one, Int.zero_mul] at h
              exact h, fun e => by rw [e, Rat.zero_divInt]⟩
            exact decide_eq_decide.mpr ((hiff _).trans h7)
          rw [he, upd_same, List.take_add_one, hkk, List.map_append, List.map_append]
          rfl
      rintro H22 ⟨z22, hD3⟩
      refine ⟨by show 3 ≤ sizeLine; decide, fun l3 hl3 => ?_⟩
      have hD3' : H22 D3 = some (.lst [.bl true, .bl false, .bl false]) := by
        rw [hD3, List.length_map, lt3]
        rfl
      refine ⟨.list [.bool true, .bool false, .bool false], .list [.bool true, .bool false, .bool false], .lst (SqL.of (same_new hl3 _ _ hD3')) (.cons (.bl _) (.cons (.bl _) (.cons (.bl _) .nil))), .lst (SqL.of upd_same) (.cons (.bl _) (.cons (.bl _) (.cons (.bl _) .nil))), rfl, rfl, ?_⟩
      have tend : Same H12 (upd H22 l3 (.lst [.bl true, .bl false, .bl false])) := t16.trans (t19.trans (z20.trans (z21.trans (z22.trans (same_new hl3)))))
      exact k _ ((hP12.same tend).mono (by omega)) (sb12.same tend)
end
/-! ### the law -/
theorem but_same {p : Addr} {H0 H H' : Hp} (sb : SameBut p H H') (s : Same H0 H) (h : H0 p = none) : Same H0 H' := fun b o e => sb b o (s b o e) (ne_of_none e h)
theorem Pot.upl {H : Hp} {p D : Addr} {n : Nat} {o : HO} (h : Pot H p n) (ne : p ≠ D) : Pot (upd H D o) p n := by
  obtain ⟨own, mix, c, e, h⟩ := h
  exact ⟨own, mix, c, by rw [upd_ne ne]; exact e, h⟩
theorem rep_map (n : Nat) : ((List.replicate n true).map V.bl) = List.replicate n (V.bl true) := List.map_replicate
def spLaw (K : PySem.W.Frag) : Sp := fun vs H Q _ => ∃ (a : Addr) (ns : List Int), vs = [.ref a] ∧ SqL K H a (ns.map V.int) ∧ ns.length ≤ 63 ∧ ∀ H', Q (.bl true) H'
section
variable {P : Program} {w : World} {K : PySem.W.Frag} {mg : Str → Option Value} {base : Heap} {A : Ad}
theorem turns3 (n : Int) : (if (if n < 3 then n else 3) > 1 then (if n < 3 then n else 3) else 1) ≤ 3 ∧ 1 ≤ (if (if n < 3 then n else 3) > 1 then (if n < 3 then n else 3) else 1) := by
  constructor <;> (repeat (first | split | omega))
theorem ok_law (T : Txt K mg A) : FnOk P w K mg base CX0 8 A.f_law A.d_law ["script"] (spLaw K) := by
  refine T.F_law.ok sc_law (fun vs H Q E h => ?_) (fun cdv B outer s H vs Q E hr h => ?_)
  · obtain ⟨a, ns, rfl, _⟩ := h
    rfl
  · obtain ⟨a, ns, rfl, hS, hlen, k⟩ := h
    have hr1 : Room 1 _ := hr.mono (by decide)
    refine ⟨_, pss_cons (ps_for PassesOwn.never rfl (pi_range1 rfl T.z_range (pa_cons (pe_callB (call_max2 rfl) (by rfl) T.z_max (by decide +kernel) (pa_cons pe_int (pa_cons (pe_callB (call_min2 rfl) (by rfl) T.z_min (by decide +kernel) (pa_cons pe_int (pa_cons
          (pe_callB call_len_seq (by rfl) T.z_len (by decide +kernel) (pa_cons (pv 0) pa_nil)) pa_nil))) pa_nil))) pa_nil)) (pg_name (i := 1) sc_law.nd rfl (Or.inl rfl))
        (pss_cons (ps_set (i := 2) sc_law.nd rfl (Or.inr rfl) (pe_call (ok_law_pot T) hr1 rfl T.g_law_pot T.F_law_pot.kp T.b_law_pot .nil pass0 (pa_cons (pv 0) (pa_cons (pv 1) pa_nil))))
        (pss_one (ps_if (pt_not (pt_val (pe_callB (cr_all rfl) (by rfl) T.z_all (by decide +kernel) (pa_cons (pe_lc (own := [("turn", 3)]) (g := gName 3) (tt := tYes) rfl sc_law.nd (pi_range1 rfl T.z_range (pa_cons pe_int pa_nil))
            (blkOk_by (N := N_law) (sc := defScope s_law) (by decide +kernel)) (fun _ _ _ _ _ => pg_name (i := 3) sc_law.nd rfl (Or.inl rfl)) (fun _ _ _ _ _ => pts_nil)
            (fun _ _ _ _ _ => pe_call (ok_law_is_right T) hr rfl T.g_law_is_right T.F_law_is_right.kp T.b_law_is_right .nil pass0 (pa_cons (pv 2) pa_nil))) pa_nil)))) (pss_one (ps_ret pe_bl)) pss_nil))))
      (pss_one (ps_ret pe_bl)), ?_⟩
    refine ⟨_, rfl, a, _, rfl, Or.inl hS, _, _, rfl, _, _, rfl, _, rfl, ?_⟩
    have h3 := turns3 ((ns.map V.int).length : Int)
    generalize (if (if ((ns.map V.int).length : Int) < 3 then ((ns.map V.int).length : Int) else 3) > 1 then (if ((ns.map V.int).length : Int) < 3 then ((ns.map V.int).length : Int) else 3) else 1) = j at *
    refine ⟨by omega, by omega, for_range (lo := 0) (n := j.toNat) (fun i σ H' => ∃ v w, σ = [some (.ref a), v, w, none] ∧ Same H H') ⟨none, none, rfl, Same.refl _⟩ ?_ ?_⟩
    · rintro i σ H' hi ⟨v, w', rfl, z⟩
      refine ⟨_, rfl, _, rfl, a, ns, _, rfl, z.seq hS, by omega, by omega, fun p H1 s1 np hP => ?_⟩
      have hHp : H p = none := z.free np
      refine ⟨8, rfl, by decide, by decide, fun D nD => lc_range (lo := 0) (n := 8) (fun i Hh => Same H Hh ∧ Pot Hh p (17 * i) ∧ Hh D = some (.lst (List.replicate i (V.bl true))))
        ⟨z.trans (s1.trans (same_new nD)), (hP.same (same_new nD)), upd_same⟩ ?_ ?_⟩
      · rintro i2 Hh hi2 ⟨zz, hPh, hD⟩
        refine ⟨rfl, yes_of ?_⟩
        refine iteT ?_
        refine ⟨_, rfl, p, 17 * i2, rfl, hPh, by omega, fun H3 hP3 sb => ?_⟩
        obtain ⟨xs, ep⟩ := hP.lst
        have hpD : p ≠ D := ne_of_none ep nD
        have hDH : H D = none := by
          cases e : H D with
          | none => rfl
          | some o =>
            have := s1 _ _ (z _ _ e)
            rw [nD] at this
            cases this
        refine ⟨_, sb _ _ hD hpD.symm, ?_, same_mut (but_same sb zz hHp) hDH, (hP3.upl hpD).mono (by omega), ?_⟩
        · rw [List.length_replicate]
          exact Nat.lt_trans hi2 (by decide)
        · rw [upd_same, List.replicate_succ']
      · rintro Hh ⟨zz, hPh, hD⟩
        refine ⟨D, List.replicate 8 true, rfl, SqL.of (by rw [hD, rep_map]), _, rfl, ?_⟩
        refine iteF' rfl ?_
        exact ⟨_, _, rfl, zz⟩
    · rintro σ H' ⟨v, w', rfl, z⟩
      exact k _
end
theorem all_mk {K : PySem.W.Frag} {h : Heap} {mg : Str → Option Value} (X : K.In h) (G : h.Ns mainGlobals mg)
    {c_Number : Addr}
    {c_Line : Addr}
    {f_is_integer : Addr}
    {oc_is_integer : Value}
    {kV_is_integer : Value}
    {dc_is_integer : Value}
    {pm_is_integer : Value}
    {cd_is_integer : Value}
    {ct_is_integer : Value}
    {od_is_integer : Option Addr}
    {an_is_integer : Option Addr}
    {osl_is_integer : Array (Option Value)}
    {f_shared_divisor : Addr}
    {oc_shared_divisor : Value}
    {kV_shared_divisor : Value}
    {dc_shared_divisor : Value}
    {pm_shared_divisor : Value}
    {cd_shared_divisor : Value}
    {ct_shared_divisor : Value}
    {od_shared_divisor : Option Addr}
    {an_shared_divisor : Option Addr}
    {osl_shared_divisor : Array (Option Value)}
    {f_Number_init : Addr}
    {oc_Number_init : Value}
    {kV_Number_init : Value}
    {dc_Number_init : Value}
    {pm_Number_init : Value}
    {cd_Number_init : Value}
    {ct_Number_init : Value}
    {od_Number_init : Option Addr}
    {an_Number_init : Option Addr}
    {osl_Number_init : Array (Option Value)}
    {T_Number_init : Addr}
    {t_Number_init_0 : Tok}
    {oT_Number_init : Value}
    {dT_Number_init : Option Addr}
    {nT_Number_init : Nat}
    {sT_Number_init : Array (Option Value)}
    {f_Number_top : Addr}
    {p_Number_top : Addr}
    {r_Number_top : List Value}
    {oc_Number_top : Value}
    {kV_Number_top : Value}
    {dc_Number_top : Value}
    {pm_Number_top : Value}
    {cd_Number_top : Value}
    {ct_Number_top : Value}
    {od_Number_top : Option Addr}
    {an_Number_top : Option Addr}
    {osl_Number_top : Array (Option Value)}
    {f_Number_bottom : Addr}
    {p_Number_bottom : Addr}
    {r_Number_bottom : List Value}
    {oc_Number_bottom : Value}
    {kV_Number_bottom : Value}
    {dc_Number_bottom : Value}
    {pm_Number_bottom : Value}
    {cd_Number_bottom : Value}
    {ct_Number_bottom : Value}
    {od_Number_bottom : Option Addr}
    {an_Number_bottom : Option Addr}
    {osl_Number_bottom : Array (Option Value)}
    {f_Number_eq : Addr}
    {oc_Number_eq : Value}
    {kV_Number_eq : Value}
    {dc_Number_eq : Value}
    {pm_Number_eq : Value}
    {cd_Number_eq : Value}
    {ct_Number_eq : Value}
    {od_Number_eq : Option Addr}
    {an_Number_eq : Option Addr}
    {osl_Number_eq : Array (Option Value)}
    {f_Number_add : Addr}
    {oc_Number_add : Value}
    {kV_Number_add : Value}
    {dc_Number_add : Value}
    {pm_Number_add : Value}
    {cd_Number_add : Value}
    {ct_Number_add : Value}
    {od_Number_add : Option Addr}
    {an_Number_add : Option Addr}
    {osl_Number_add : Array (Option Value)}
    {f_Number_sub : Addr}
    {oc_Number_sub : Value}
    {kV_Number_sub : Value}
    {dc_Number_sub : Value}
    {pm_Number_sub : Value}
    {cd_Number_sub : Value}
    {ct_Number_sub : Value}
    {od_Number_sub : Option Addr}
    {an_Number_sub : Option Addr}
    {osl_Number_sub : Array (Option Value)}
    {f_Number_mul : Addr}
    {oc_Number_mul : Value}
    {kV_Number_mul : Value}
    {dc_Number_mul : Value}
    {pm_Number_mul : Value}
    {cd_Number_mul : Value}
    {ct_Number_mul : Value}
    {od_Number_mul : Option Addr}
    {an_Number_mul : Option Addr}
    {osl_Number_mul : Array (Option Value)}
    {f_Number_divided_by : Addr}
    {oc_Number_divided_by : Value}
    {kV_Number_divided_by : Value}
    {dc_Number_divided_by : Value}
    {pm_Number_divided_by : Value}
    {cd_Number_divided_by : Value}
    {ct_Number_divided_by : Value}
    {od_Number_divided_by : Option Addr}
    {an_Number_divided_by : Option Addr}
    {osl_Number_divided_by : Array (Option Value)}
    {f_Line_init : Addr}
    {oc_Line_init : Value}
    {kV_Line_init : Value}
    {dc_Line_init : Value}
    {pm_Line_init : Value}
    {cd_Line_init : Value}
    {ct_Line_init : Value}
    {od_Line_init : Option Addr}
    {an_Line_init : Option Addr}
    {osl_Line_init : Array (Option Value)}
    {f_Line_call : Addr}
    {oc_Line_call : Value}
    {kV_Line_call : Value}
    {dc_Line_call : Value}
    {pm_Line_call : Value}
    {cd_Line_call : Value}
    {ct_Line_call : Value}
    {od_Line_call : Option Addr}
    {an_Line_call : Option Addr}
    {osl_Line_call : Array (Option Value)}
    {f_Line_meets : Addr}
    {oc_Line_meets : Value}
    {kV_Line_meets : Value}
    {dc_Line_meets : Value}
    {pm_Line_meets : Value}
    {cd_Line_meets : Value}
    {ct_Line_meets : Value}
    {od_Line_meets : Option Addr}
    {an_Line_meets : Option Addr}
    {osl_Line_meets : Array (Option Value)}
    {f_law_pot : Addr}
    {oc_law_pot : Value}
    {kV_law_pot : Value}
    {dc_law_pot : Value}
    {pm_law_pot : Value}
    {cd_law_pot : Value}
    {ct_law_pot : Value}
    {od_law_pot : Option Addr}
    {an_law_pot : Option Addr}
    {osl_law_pot : Array (Option Value)}
    {f_law_take : Addr}
    {oc_law_take : Value}
    {kV_law_take : Value}
    {dc_law_take : Value}
    {pm_law_take : Value}
    {cd_law_take : Value}
    {ct_law_take : Value}
    {od_law_take : Option Addr}
    {an_law_take : Option Addr}
    {osl_law_take : Array (Option Value)}
    {f_law_of : Addr}
    {oc_law_of : Value}
    {kV_law_of : Value}
    {dc_law_of : Value}
    {pm_law_of : Value}
    {cd_law_of : Value}
    {ct_law_of : Value}
    {od_law_of : Option Addr}
    {an_law_of : Option Addr}
    {osl_law_of : Array (Option Value)}
    {f_law_drawn : Addr}
    {oc_law_drawn : Value}
    {kV_law_drawn : Value}
    {dc_law_drawn : Value}
    {pm_law_drawn : Value}
    {cd_law_drawn : Value}
    {ct_law_drawn : Value}
    {od_law_drawn : Option Addr}
    {an_law_drawn : Option Addr}
    {osl_law_drawn : Array (Option Value)}
    {f_law_number : Addr}
    {oc_law_number : Value}
    {kV_law_number : Value}
    {dc_law_number : Value}
    {pm_law_number : Value}
    {cd_law_number : Value}
    {ct_law_number : Value}
    {od_law_number : Option Addr}
    {an_law_number : Option Addr}
    {osl_law_number : Array (Option Value)}
    {f_law_least : Addr}
    {oc_law_least : Value}
    {kV_law_least : Value}
    {dc_law_least : Value}
    {pm_law_least : Value}
    {cd_law_least : Value}
    {ct_law_least : Value}
    {od_law_least : Option Addr}
    {an_law_least : Option Addr}
    {osl_law_least : Array (Option Value)}
    {f_law_due : Addr}
    {oc_law_due : Value}
    {kV_law_due : Value}
    {dc_law_due : Value}
    {pm_law_due : Value}
    {cd_law_due : Value}
    {ct_law_due : Value}
    {od_law_due : Option Addr}
    {an_law_due : Option Addr}
    {osl_law_due : Array (Option Value)}
    {f_law_is_right : Addr}
    {oc_law_is_right : Value}
    {kV_law_is_right : Value}
    {dc_law_is_right : Value}
    {pm_law_is_right : Value}
    {cd_law_is_right : Value}
    {ct_law_is_right : Value}
    {od_law_is_right : Option Addr}
    {an_law_is_right : Option Addr}
    {osl_law_is_right : Array (Option Value)}
    {f_law : Addr}
    {oc_law : Value}
    {kV_law : Value}
    {dc_law : Value}
    {pm_law : Value}
    {cd_law : Value}
    {ct_law : Value}
    {od_law : Option Addr}
    {an_law : Option Addr}
    {osl_law : Array (Option Value)}
    (a_Number : PySem.W.nsIn K mainGlobals "Number" = some (some (.ref c_Number)))
    (pg_Number : PySem.W.plainGet K c_Number Str.empty = true)
    (hd_Number : PySem.W.hasDictIn K c_Number = true)
    (po_Number : PySem.W.plainOver K c_Number = true)
    (sa_Number : PySem.W.findIn K (.ref c_Number) "__setattr__" = some (some (.builtin "object.__setattr__")))
    (mk_Number : PySem.W.makesIn K c_Number = true)
    (kc_Number : PySem.W.keepIn K (.ref c_Number) = true)
    (sf_Number : PySem.W.selfFirst K c_Number = true)
    (ca_Number : PySem.W.findIn K (.ref c_Number) "__class__" = some (some (.builtin "object.__class__")))
    (cm_Number : PySem.W.mroIn K c_Number (.type "object") = some true)
    (n_Number_own_top : PySem.W.findIn K (.ref c_Number) "own_top" = some none)
    (n_Number_own_bottom : PySem.W.findIn K (.ref c_Number) "own_bottom" = some none)
    (a_Line : PySem.W.nsIn K mainGlobals "Line" = some (some (.ref c_Line)))
    (pg_Line : PySem.W.plainGet K c_Line Str.empty = true)
    (hd_Line : PySem.W.hasDictIn K c_Line = true)
    (po_Line : PySem.W.plainOver K c_Line = true)
    (sa_Line : PySem.W.findIn K (.ref c_Line) "__setattr__" = some (some (.builtin "object.__setattr__")))
    (mk_Line : PySem.W.makesIn K c_Line = true)
    (kc_Line : PySem.W.keepIn K (.ref c_Line) = true)
    (sf_Line : PySem.W.selfFirst K c_Line = true)
    (ca_Line : PySem.W.findIn K (.ref c_Line) "__class__" = some (some (.builtin "object.__class__")))
    (cm_Line : PySem.W.mroIn K c_Line (.type "object") = some true)
    (n_Line_own_base : PySem.W.findIn K (.ref c_Line) "own_base" = some none)
    (n_Line_own_slope : PySem.W.findIn K (.ref c_Line) "own_slope" = some none)
    (cn : PySem.W.specialIn K (.builtin "object.__class__") "__get__" = some (some (.builtin "getset_descriptor.__get__")))
    (ct : PySem.W.takesIn K (.builtin "object.__class__") = some true)
    (a_is_integer : PySem.W.nsIn K mainGlobals "is_integer" = some (some (.ref f_is_integer)))
    (l_is_integer : K.lookup f_is_integer = some ⟨oc_is_integer, od_is_integer, .func (PySem.W.fnOf "is_integer" "is_integer" (defArgs s_is_integer) (defBody s_is_integer) (defScope s_is_integer) .none kV_is_integer dc_is_integer pm_is_integer an_is_integer cd_is_integer ct_is_integer), osl_is_integer⟩)
    (hc_is_integer : PySem.W.codeIn K cd_is_integer "is_integer" = true)
    (k_is_integer : PySem.W.keepIn K (.ref f_is_integer) = true)
    (a_shared_divisor : PySem.W.nsIn K mainGlobals "shared_divisor" = some (some (.ref f_shared_divisor)))
    (l_shared_divisor : K.lookup f_shared_divisor = some ⟨oc_shared_divisor, od_shared_divisor, .func (PySem.W.fnOf "shared_divisor" "shared_divisor" (defArgs s_shared_divisor) (defBody s_shared_divisor) (defScope s_shared_divisor) .none kV_shared_divisor dc_shared_divisor pm_shared_divisor an_shared_divisor cd_shared_divisor ct_shared_divisor), osl_shared_divisor⟩)
    (hc_shared_divisor : PySem.W.codeIn K cd_shared_divisor "shared_divisor" = true)
    (k_shared_divisor : PySem.W.keepIn K (.ref f_shared_divisor) = true)
    (a_Number_init : PySem.W.findIn K (.ref c_Number) "__init__" = some (some (.ref f_Number_init)))
    (i_Number_init : PySem.W.isFn K (.ref f_Number_init) = true)
    (l_Number_init : K.lookup f_Number_init = some ⟨oc_Number_init, od_Number_init, .func (PySem.W.fnOf "__init__" "Number.__init__" (defArgs s_Number_init) (defBody s_Number_init) (defScope s_Number_init) (.ref T_Number_init) kV_Number_init dc_Number_init pm_Number_init an_Number_init cd_Number_init ct_Number_init), osl_Number_init⟩)
    (hc_Number_init : PySem.W.codeIn K cd_Number_init "Number.__init__" = true)
    (k_Number_init : PySem.W.keepIn K (.ref f_Number_init) = true)
    (lT_Number_init : K.lookup T_Number_init = some ⟨oT_Number_init, dT_Number_init, .seq #[.int 1 t_Number_init_0] nT_Number_init, sT_Number_init⟩)
    (at_Number_top : PySem.W.findIn K (.ref c_Number) "top" = some (some (.ref p_Number_top)))
    (gt_Number_top : PySem.W.specialIn K (.ref p_Number_top) "__get__" = some (some (.builtin "property.__get__")))
    (tk_Number_top : PySem.W.takesIn K (.ref p_Number_top) = some true)
    (rc_Number_top : PySem.W.recIn K p_Number_top "property" = some (.ref f_Number_top :: r_Number_top))
    (l_Number_top : K.lookup f_Number_top = some ⟨oc_Number_top, od_Number_top, .func (PySem.W.fnOf "top" "Number.top" (defArgs s_Number_top) (defBody s_Number_top) (defScope s_Number_top) .none kV_Number_top dc_Number_top pm_Number_top an_Number_top cd_Number_top ct_Number_top), osl_Number_top⟩)
    (hc_Number_top : PySem.W.codeIn K cd_Number_top "Number.top" = true)
    (k_Number_top : PySem.W.keepIn K (.ref f_Number_top) = true)
    (at_Number_bottom : PySem.W.findIn K (.ref c_Number) "bottom" = some (some (.ref p_Number_bottom)))
    (gt_Number_bottom : PySem.W.specialIn K (.ref p_Number_bottom) "__get__" = some (some (.builtin "property.__get__")))
    (tk_Number_bottom : PySem.W.takesIn K (.ref p_Number_bottom) = some true)
    (rc_Number_bottom : PySem.W.recIn K p_Number_bottom "property" = some (.ref f_Number_bottom :: r_Number_bottom))
    (l_Number_bottom : K.lookup f_Number_bottom = some ⟨oc_Number_bottom, od_Number_bottom, .func (PySem.W.fnOf "bottom" "Number.bottom" (defArgs s_Number_bottom) (defBody s_Number_bottom) (defScope s_Number_bottom) .none kV_Number_bottom dc_Number_bottom pm_Number_bottom an_Number_bottom cd_Number_bottom ct_Number_bottom), osl_Number_bottom⟩)
    (hc_Number_bottom : PySem.W.codeIn K cd_Number_bottom "Number.bottom" = true)
    (k_Number_bottom : PySem.W.keepIn K (.ref f_Number_bottom) = true)
    (a_Number_eq : PySem.W.findIn K (.ref c_Number) "__eq__" = some (some (.ref f_Number_eq)))
    (i_Number_eq : PySem.W.isFn K (.ref f_Number_eq) = true)
    (l_Number_eq : K.lookup f_Number_eq = some ⟨oc_Number_eq, od_Number_eq, .func (PySem.W.fnOf "__eq__" "Number.__eq__" (defArgs s_Number_eq) (defBody s_Number_eq) (defScope s_Number_eq) .none kV_Number_eq dc_Number_eq pm_Number_eq an_Number_eq cd_Number_eq ct_Number_eq), osl_Number_eq⟩)
    (hc_Number_eq : PySem.W.codeIn K cd_Number_eq "Number.__eq__" = true)
    (k_Number_eq : PySem.W.keepIn K (.ref f_Number_eq) = true)
    (a_Number_add : PySem.W.findIn K (.ref c_Number) "__add__" = some (some (.ref f_Number_add)))
    (i_Number_add : PySem.W.isFn K (.ref f_Number_add) = true)
    (l_Number_add : K.lookup f_Number_add = some ⟨oc_Number_add, od_Number_add, .func (PySem.W.fnOf "__add__" "Number.__add__" (defArgs s_Number_add) (defBody s_Number_add) (defScope s_Number_add) .none kV_Number_add dc_Number_add pm_Number_add an_Number_add cd_Number_add ct_Number_add), osl_Number_add⟩)
    (hc_Number_add : PySem.W.codeIn K cd_Number_add "Number.__add__" = true)
    (k_Number_add : PySem.W.keepIn K (.ref f_Number_add) = true)
    (a_Number_sub : PySem.W.findIn K (.ref c_Number) "__sub__" = some (some (.ref f_Number_sub)))
    (i_Number_sub : PySem.W.isFn K (.ref f_Number_sub) = true)
    (l_Number_sub : K.lookup f_Number_sub = some ⟨oc_Number_sub, od_Number_sub, .func (PySem.W.fnOf "__sub__" "Number.__sub__" (defArgs s_Number_sub) (defBody s_Number_sub) (defScope s_Number_sub) .none kV_Number_sub dc_Number_sub pm_Number_sub an_Number_sub cd_Number_sub ct_Number_sub), osl_Number_sub⟩)
    (hc_Number_sub : PySem.W.codeIn K cd_Number_sub "Number.__sub__" = true)
    (k_Number_sub : PySem.W.keepIn K (.ref f_Number_sub) = true)
    (a_Number_mul : PySem.W.findIn K (.ref c_Number) "__mul__" = some (some (.ref f_Number_mul)))
    (i_Number_mul : PySem.W.isFn K (.ref f_Number_mul) = true)
    (l_Number_mul : K.lookup f_Number_mul = some ⟨oc_Number_mul, od_Number_mul, .func (PySem.W.fnOf "__mul__" "Number.__mul__" (defArgs s_Number_mul) (defBody s_Number_mul) (defScope s_Number_mul) .none kV_Number_mul dc_Number_mul pm_Number_mul an_Number_mul cd_Number_mul ct_Number_mul), osl_Number_mul⟩)
    (hc_Number_mul : PySem.W.codeIn K cd_Number_mul "Number.__mul__" = true)
    (k_Number_mul : PySem.W.keepIn K (.ref f_Number_mul) = true)
    (a_Number_divided_by : PySem.W.findIn K (.ref c_Number) "divided_by" = some (some (.ref f_Number_divided_by)))
    (i_Number_divided_by : PySem.W.isFn K (.ref f_Number_divided_by) = true)
    (l_Number_divided_by : K.lookup f_Number_divided_by = some ⟨oc_Number_divided_by, od_Number_divided_by, .func (PySem.W.fnOf "divided_by" "Number.divided_by" (defArgs s_Number_divided_by) (defBody s_Number_divided_by) (defScope s_Number_divided_by) .none kV_Number_divided_by dc_Number_divided_by pm_Number_divided_by an_Number_divided_by cd_Number_divided_by ct_Number_divided_by), osl_Number_divided_by⟩)
    (hc_Number_divided_by : PySem.W.codeIn K cd_Number_divided_by "Number.divided_by" = true)
    (k_Number_divided_by : PySem.W.keepIn K (.ref f_Number_divided_by) = true)
    (a_Line_init : PySem.W.findIn K (.ref c_Line) "__init__" = some (some (.ref f_Line_init)))
    (i_Line_init : PySem.W.isFn K (.ref f_Line_init) = true)
    (l_Line_init : K.lookup f_Line_init = some ⟨oc_Line_init, od_Line_init, .func (PySem.W.fnOf "__init__" "Line.__init__" (defArgs s_Line_init) (defBody s_Line_init) (defScope s_Line_init) .none kV_Line_init dc_Line_init pm_Line_init an_Line_init cd_Line_init ct_Line_init), osl_Line_init⟩)
    (hc_Line_init : PySem.W.codeIn K cd_Line_init "Line.__init__" = true)
    (k_Line_init : PySem.W.keepIn K (.ref f_Line_init) = true)
    (a_Line_call : PySem.W.findIn K (.ref c_Line) "__call__" = some (some (.ref f_Line_call)))
    (i_Line_call : PySem.W.isFn K (.ref f_Line_call) = true)
    (fi_Line_call : PySem.W.fnIn K f_Line_call = true)
    (l_Line_call : K.lookup f_Line_call = some ⟨oc_Line_call, od_Line_call, .func (PySem.W.fnOf "__call__" "Line.__call__" (defArgs s_Line_call) (defBody s_Line_call) (defScope s_Line_call) .none kV_Line_call dc_Line_call pm_Line_call an_Line_call cd_Line_call ct_Line_call), osl_Line_call⟩)
    (hc_Line_call : PySem.W.codeIn K cd_Line_call "Line.__call__" = true)
    (k_Line_call : PySem.W.keepIn K (.ref f_Line_call) = true)
    (a_Line_meets : PySem.W.findIn K (.ref c_Line) "meets" = some (some (.ref f_Line_meets)))
    (i_Line_meets : PySem.W.isFn K (.ref f_Line_meets) = true)
    (l_Line_meets : K.lookup f_Line_meets = some ⟨oc_Line_meets, od_Line_meets, .func (PySem.W.fnOf "meets" "Line.meets" (defArgs s_Line_meets) (defBody s_Line_meets) (defScope s_Line_meets) .none kV_Line_meets dc_Line_meets pm_Line_meets an_Line_meets cd_Line_meets ct_Line_meets), osl_Line_meets⟩)
    (hc_Line_meets : PySem.W.codeIn K cd_Line_meets "Line.meets" = true)
    (k_Line_meets : PySem.W.keepIn K (.ref f_Line_meets) = true)
    (a_law_pot : PySem.W.nsIn K mainGlobals "_law_pot" = some (some (.ref f_law_pot)))
    (l_law_pot : K.lookup f_law_pot = some ⟨oc_law_pot, od_law_pot, .func (PySem.W.fnOf "_law_pot" "_law_pot" (defArgs s_law_pot) (defBody s_law_pot) (defScope s_law_pot) .none kV_law_pot dc_law_pot pm_law_pot an_law_pot cd_law_pot ct_law_pot), osl_law_pot⟩)
    (hc_law_pot : PySem.W.codeIn K cd_law_pot "_law_pot" = true)
    (k_law_pot : PySem.W.keepIn K (.ref f_law_pot) = true)
    (a_law_take : PySem.W.nsIn K mainGlobals "_law_take" = some (some (.ref f_law_take)))
    (l_law_take : K.lookup f_law_take = some ⟨oc_law_take, od_law_take, .func (PySem.W.fnOf "_law_take" "_law_take" (defArgs s_law_take) (defBody s_law_take) (defScope s_law_take) .none kV_law_take dc_law_take pm_law_take an_law_take cd_law_take ct_law_take), osl_law_take⟩)
    (hc_law_take : PySem.W.codeIn K cd_law_take "_law_take" = true)
    (k_law_take : PySem.W.keepIn K (.ref f_law_take) = true)
    (a_law_of : PySem.W.nsIn K mainGlobals "_law_of" = some (some (.ref f_law_of)))
    (l_law_of : K.lookup f_law_of = some ⟨oc_law_of, od_law_of, .func (PySem.W.fnOf "_law_of" "_law_of" (defArgs s_law_of) (defBody s_law_of) (defScope s_law_of) .none kV_law_of dc_law_of pm_law_of an_law_of cd_law_of ct_law_of), osl_law_of⟩)
    (hc_law_of : PySem.W.codeIn K cd_law_of "_law_of" = true)
    (k_law_of : PySem.W.keepIn K (.ref f_law_of) = true)
    (a_law_drawn : PySem.W.nsIn K mainGlobals "_law_drawn" = some (some (.ref f_law_drawn)))
    (l_law_drawn : K.lookup f_law_drawn = some ⟨oc_law_drawn, od_law_drawn, .func (PySem.W.fnOf "_law_drawn" "_law_drawn" (defArgs s_law_drawn) (defBody s_law_drawn) (defScope s_law_drawn) .none kV_law_drawn dc_law_drawn pm_law_drawn an_law_drawn cd_law_drawn ct_law_drawn), osl_law_drawn⟩)
    (hc_law_drawn : PySem.W.codeIn K cd_law_drawn "_law_drawn" = true)
    (k_law_drawn : PySem.W.keepIn K (.ref f_law_drawn) = true)
    (a_law_number : PySem.W.nsIn K mainGlobals "_law_number" = some (some (.ref f_law_number)))
    (l_law_number : K.lookup f_law_number = some ⟨oc_law_number, od_law_number, .func (PySem.W.fnOf "_law_number" "_law_number" (defArgs s_law_number) (defBody s_law_number) (defScope s_law_number) .none kV_law_number dc_law_number pm_law_number an_law_number cd_law_number ct_law_number), osl_law_number⟩)
    (hc_law_number : PySem.W.codeIn K cd_law_number "_law_number" = true)
    (k_law_number : PySem.W.keepIn K (.ref f_law_number) = true)
    (a_law_least : PySem.W.nsIn K mainGlobals "_law_least" = some (some (.ref f_law_least)))
    (l_law_least : K.lookup f_law_least = some ⟨oc_law_least, od_law_least, .func (PySem.W.fnOf "_law_least" "_law_least" (defArgs s_law_least) (defBody s_law_least) (defScope s_law_least) .none kV_law_least dc_law_least pm_law_least an_law_least cd_law_least ct_law_least), osl_law_least⟩)
    (hc_law_least : PySem.W.codeIn K cd_law_least "_law_least" = true)
    (k_law_least : PySem.W.keepIn K (.ref f_law_least) = true)
    (a_law_due : PySem.W.nsIn K mainGlobals "_law_due" = some (some (.ref f_law_due)))
    (l_law_due : K.lookup f_law_due = some ⟨oc_law_due, od_law_due, .func (PySem.W.fnOf "_law_due" "_law_due" (defArgs s_law_due) (defBody s_law_due) (defScope s_law_due) .none kV_law_due dc_law_due pm_law_due an_law_due cd_law_due ct_law_due), osl_law_due⟩)
    (hc_law_due : PySem.W.codeIn K cd_law_due "_law_due" = true)
    (k_law_due : PySem.W.keepIn K (.ref f_law_due) = true)
    (a_law_is_right : PySem.W.nsIn K mainGlobals "_law_is_right" = some (some (.ref f_law_is_right)))
    (l_law_is_right : K.lookup f_law_is_right = some ⟨oc_law_is_right, od_law_is_right, .func (PySem.W.fnOf "_law_is_right" "_law_is_right" (defArgs s_law_is_right) (defBody s_law_is_right) (defScope s_law_is_right) .none kV_law_is_right dc_law_is_right pm_law_is_right an_law_is_right cd_law_is_right ct_law_is_right), osl_law_is_right⟩)
    (hc_law_is_right : PySem.W.codeIn K cd_law_is_right "_law_is_right" = true)
    (k_law_is_right : PySem.W.keepIn K (.ref f_law_is_right) = true)
    (a_law : PySem.W.nsIn K mainGlobals "law" = some (some (.ref f_law)))
    (l_law : K.lookup f_law = some ⟨oc_law, od_law, .func (PySem.W.fnOf "law" "law" (defArgs s_law) (defBody s_law) (defScope s_law) .none kV_law dc_law pm_law an_law cd_law ct_law), osl_law⟩)
    (hc_law : PySem.W.codeIn K cd_law "law" = true)
    (k_law : PySem.W.keepIn K (.ref f_law) = true)
    (z_isinstance : PySem.W.nsIn K mainGlobals "isinstance" = some none)
    (z_int : PySem.W.nsIn K mainGlobals "int" = some none)
    (z_bool : PySem.W.nsIn K mainGlobals "bool" = some none)
    (z_abs : PySem.W.nsIn K mainGlobals "abs" = some none)
    (z_len : PySem.W.nsIn K mainGlobals "len" = some none)
    (z_max : PySem.W.nsIn K mainGlobals "max" = some none)
    (z_min : PySem.W.nsIn K mainGlobals "min" = some none)
    (z_range : PySem.W.nsIn K mainGlobals "range" = some none)
    (z_all : PySem.W.nsIn K mainGlobals "all" = some none)
    (kit_NumNum : PySem.W.kitOne K (.ref c_Number) (.ref c_Number) = some true)
    : ∃ A : Ad, A.f_law = f_law ∧ Txt K mg A :=
  ⟨⟨c_Number, c_Line, f_is_integer, (PySem.W.fnOf "is_integer" "is_integer" (defArgs s_is_integer) (defBody s_is_integer) (defScope s_is_integer) .none kV_is_integer dc_is_integer pm_is_integer an_is_integer cd_is_integer ct_is_integer), f_shared_divisor, (PySem.W.fnOf "shared_divisor" "shared_divisor" (defArgs s_shared_divisor) (defBody s_shared_divisor) (defScope s_shared_divisor) .none kV_shared_divisor dc_shared_divisor pm_shared_divisor an_shared_divisor cd_shared_divisor ct_shared_divisor), f_Number_init, (PySem.W.fnOf "__init__" "Number.__init__" (defArgs s_Number_init) (defBody s_Number_init) (defScope s_Number_init) (.ref T_Number_init) kV_Number_init dc_Number_init pm_Number_init an_Number_init cd_Number_init ct_Number_init), f_Number_top, (PySem.W.fnOf "top" "Number.top" (defArgs s_Number_top) (defBody s_Number_top) (defScope s_Number_top) .none kV_Number_top dc_Number_top pm_Number_top an_Number_top cd_Number_top ct_Number_top), p_Number_top, f_Number_bottom, (PySem.W.fnOf "bottom" "Number.bottom" (defArgs s_Number_bottom) (defBody s_Number_bottom) (defScope s_Number_bottom) .none kV_Number_bottom dc_Number_bottom pm_Number_bottom an_Number_bottom cd_Number_bottom ct_Number_bottom), p_Number_bottom, f_Number_eq, (PySem.W.fnOf "__eq__" "Number.__eq__" (defArgs s_Number_eq) (defBody s_Number_eq) (defScope s_Number_eq) .none kV_Number_eq dc_Number_eq pm_Number_eq an_Number_eq cd_Number_eq ct_Number_eq), f_Number_add, (PySem.W.fnOf "__add__" "Number.__add__" (defArgs s_Number_add) (defBody s_Number_add) (defScope s_Number_add) .none kV_Number_add dc_Number_add pm_Number_add an_Number_add cd_Number_add ct_Number_add), f_Number_sub, (PySem.W.fnOf "__sub__" "Number.__sub__" (defArgs s_Number_sub) (defBody s_Number_sub) (defScope s_Number_sub) .none kV_Number_sub dc_Number_sub pm_Number_sub an_Number_sub cd_Number_sub ct_Number_sub), f_Number_mul, (PySem.W.fnOf "__mul__" "Number.__mul__" (defArgs s_Number_mul) (defBody s_Number_mul) (defScope s_Number_mul) .none kV_Number_mul dc_Number_mul pm_Number_mul an_Number_mul cd_Number_mul ct_Number_mul), f_Number_divided_by, (PySem.W.fnOf "divided_by" "Number.divided_by" (defArgs s_Number_divided_by) (defBody s_Number_divided_by) (defScope s_Number_divided_by) .none kV_Number_divided_by dc_Number_divided_by pm_Number_divided_by an_Number_divided_by cd_Number_divided_by ct_Number_divided_by), f_Line_init, (PySem.W.fnOf "__init__" "Line.__init__" (defArgs s_Line_init) (defBody s_Line_init) (defScope s_Line_init) .none kV_Line_init dc_Line_init pm_Line_init an_Line_init cd_Line_init ct_Line_init), f_Line_call, (PySem.W.fnOf "__call__" "Line.__call__" (defArgs s_Line_call) (defBody s_Line_call) (defScope s_Line_call) .none kV_Line_call dc_Line_call pm_Line_call an_Line_call cd_Line_call ct_Line_call), f_Line_meets, (PySem.W.fnOf "meets" "Line.meets" (defArgs s_Line_meets) (defBody s_Line_meets) (defScope s_Line_meets) .none kV_Line_meets dc_Line_meets pm_Line_meets an_Line_meets cd_Line_meets ct_Line_meets), f_law_pot, (PySem.W.fnOf "_law_pot" "_law_pot" (defArgs s_law_pot) (defBody s_law_pot) (defScope s_law_pot) .none kV_law_pot dc_law_pot pm_law_pot an_law_pot cd_law_pot ct_law_pot), f_law_take, (PySem.W.fnOf "_law_take" "_law_take" (defArgs s_law_take) (defBody s_law_take) (defScope s_law_take) .none kV_law_take dc_law_take pm_law_take an_law_take cd_law_take ct_law_take), f_law_of, (PySem.W.fnOf "_law_of" "_law_of" (defArgs s_law_of) (defBody s_law_of) (defScope s_law_of) .none kV_law_of dc_law_of pm_law_of an_law_of cd_law_of ct_law_of), f_law_drawn, (PySem.W.fnOf "_law_drawn" "_law_drawn" (defArgs s_law_drawn) (defBody s_law_drawn) (defScope s_law_drawn) .none kV_law_drawn dc_law_drawn pm_law_drawn an_law_drawn cd_law_drawn ct_law_drawn), f_law_number, (PySem.W.fnOf "_law_number" "_law_number" (defArgs s_law_number) (defBody s_law_number) (defScope s_law_number) .none kV_law_number dc_law_number pm_law_number an_law_number cd_law_number ct_law_number), f_law_least, (PySem.W.fnOf "_law_least" "_law_least" (defArgs s_law_least) (defBody s_law_least) (defScope s_law_least) .none kV_law_least dc_law_least pm_law_least an_law_least cd_law_least ct_law_least), f_law_due, (PySem.W.fnOf "_law_due" "_law_due" (defArgs s_law_due) (defBody s_law_due) (defScope s_law_due) .none kV_law_due dc_law_due pm_law_due an_law_due cd_law_due ct_law_due), f_law_is_right, (PySem.W.fnOf "_law_is_right" "_law_is_right" (defArgs s_law_is_right) (defBody s_law_is_right) (defScope s_law_is_right) .none kV_law_is_right dc_law_is_right pm_law_is_right an_law_is_right cd_law_is_right ct_law_is_right), f_law, (PySem.W.fnOf "law" "law" (defArgs s_law) (defBody s_law) (defScope s_law) .none kV_law dc_law pm_law an_law cd_law ct_law)⟩, rfl, {
    g_Number := PySem.W.mg_of X G a_Number,
    cl_Number := ⟨pg_Number, hd_Number, po_Number, sa_Number⟩,
    M_Number := ⟨mk_Number, a_Number_init, i_Number_init, kc_Number⟩,
    sf_Number := sf_Number,
    ca_Number := ca_Number,
    cm_Number := cm_Number,
    n_Number_own_top := n_Number_own_top,
    n_Number_own_bottom := n_Number_own_bottom,
    g_Line := PySem.W.mg_of X G a_Line,
    cl_Line := ⟨pg_Line, hd_Line, po_Line, sa_Line⟩,
    M_Line := ⟨mk_Line, a_Line_init, i_Line_init, kc_Line⟩,
    sf_Line := sf_Line,
    ca_Line := ca_Line,
    cm_Line := cm_Line,
    n_Line_own_base := n_Line_own_base,
    n_Line_own_slope := n_Line_own_slope,
    cn := cn,
    ct := ct,
    g_is_integer := PySem.W.mg_of X G a_is_integer,
    F_is_integer := fun_mk (st := s_is_integer) l_is_integer hc_is_integer k_is_integer,
    b_is_integer := (fun_mk (st := s_is_integer) l_is_integer hc_is_integer k_is_integer).binds (ps := ["value"]) fun _ _ _ _ _ _ us hl => match us, hl with | [_], _ => rfl,
    g_shared_divisor := PySem.W.mg_of X G a_shared_divisor,
    F_shared_divisor := fun_mk (st := s_shared_divisor) l_shared_divisor hc_shared_divisor k_shared_divisor,
    b_shared_divisor := (fun_mk (st := s_shared_divisor) l_shared_divisor hc_shared_divisor k_shared_divisor).binds (ps := ["one", "other"]) fun _ _ _ _ _ _ us hl => match us, hl with | [_, _], _ => rfl,
    m_Number_init := ⟨a_Number_init, i_Number_init, k_Number_init⟩,
    F_Number_init := ⟨⟨_, _, _, _, _, _, _, _, _, _, rfl, l_Number_init, hc_Number_init, Or.inr ⟨by simp, _, _, [.int 1 t_Number_init_0], _, rfl, lT_Number_init, rfl, .cons ⟨_, rfl⟩ (.nil)⟩, Or.inl rfl⟩, k_Number_init⟩,
    P_Number_top := ⟨at_Number_top, gt_Number_top, tk_Number_top, ⟨_, rc_Number_top⟩⟩,
    F_Number_top := fun_mk (st := s_Number_top) l_Number_top hc_Number_top k_Number_top,
    b_Number_top := (fun_mk (st := s_Number_top) l_Number_top hc_Number_top k_Number_top).binds (ps := ["self"]) fun _ _ _ _ _ _ us hl => match us, hl with | [_], _ => rfl,
    P_Number_bottom := ⟨at_Number_bottom, gt_Number_bottom, tk_Number_bottom, ⟨_, rc_Number_bottom⟩⟩,
    F_Number_bottom := fun_mk (st := s_Number_bottom) l_Number_bottom hc_Number_bottom k_Number_bottom,
    b_Number_bottom := (fun_mk (st := s_Number_bottom) l_Number_bottom hc_Number_bottom k_Number_bottom).binds (ps := ["self"]) fun _ _ _ _ _ _ us hl => match us, hl with | [_], _ => rfl,
    m_Number_eq := ⟨a_Number_eq, i_Number_eq, k_Number_eq⟩,
    F_Number_eq := fun_mk (st := s_Number_eq) l_Number_eq hc_Number_eq k_Number_eq,
    b_Number_eq := (fun_mk (st := s_Number_eq) l_Number_eq hc_Number_eq k_Number_eq).binds (ps := ["self", "other"]) fun _ _ _ _ _ _ us hl => match us, hl with | [_, _], _ => rfl,
    m_Number_add := ⟨a_Number_add, i_Number_add, k_Number_add⟩,
    F_Number_add := fun_mk (st := s_Number_add) l_Number_add hc_Number_add k_Number_add,
    b_Number_add := (fun_mk (st := s_Number_add) l_Number_add hc_Number_add k_Number_add).binds (ps := ["self", "other"]) fun _ _ _ _ _ _ us hl => match us, hl with | [_, _], _ => rfl,
    m_Number_sub := ⟨a_Number_sub, i_Number_sub, k_Number_sub⟩,
    F_Number_sub := fun_mk (st := s_Number_sub) l_Number_sub hc_Number_sub k_Number_sub,
    b_Number_sub := (fun_mk (st := s_Number_sub) l_Number_sub hc_Number_sub k_Number_sub).binds (ps := ["self", "other"]) fun _ _ _ _ _ _ us hl => match us, hl with | [_, _], _ => rfl,
    m_Number_mul := ⟨a_Number_mul, i_Number_mul, k_Number_mul⟩,
    F_Number_mul := fun_mk (st := s_Number_mul) l_Number_mul hc_Number_mul k_Number_mul,
    b_Number_mul := (fun_mk (st := s_Number_mul) l_Number_mul hc_Number_mul k_Number_mul).binds (ps := ["self", "other"]) fun _ _ _ _ _ _ us hl => match us, hl with | [_, _], _ => rfl,
    m_Number_divided_by := ⟨a_Number_divided_by, i_Number_divided_by, k_Number_divided_by⟩,
    F_Number_divided_by := fun_mk (st := s_Number_divided_by) l_Number_divided_by hc_Number_divided_by k_Number_divided_by,
    b_Number_divided_by := (fun_mk (st := s_Number_divided_by) l_Number_divided_by hc_Number_divided_by k_Number_divided_by).binds (ps := ["self", "other"]) fun _ _ _ _ _ _ us hl => match us, hl with | [_, _], _ => rfl,
    m_Line_init := ⟨a_Line_init, i_Line_init, k_Line_init⟩,
    F_Line_init := fun_mk (st := s_Line_init) l_Line_init hc_Line_init k_Line_init,
    b_Line_init := (fun_mk (st := s_Line_init) l_Line_init hc_Line_init k_Line_init).binds (ps := ["self", "base", "slope"]) fun _ _ _ _ _ _ us hl => match us, hl with | [_, _, _], _ => rfl,
    m_Line_call := ⟨a_Line_call, i_Line_call, k_Line_call⟩,
    co_Line_call := ⟨a_Line_call, i_Line_call, fi_Line_call⟩,
    F_Line_call := fun_mk (st := s_Line_call) l_Line_call hc_Line_call k_Line_call,
    b_Line_call := (fun_mk (st := s_Line_call) l_Line_call hc_Line_call k_Line_call).binds (ps := ["self", "s"]) fun _ _ _ _ _ _ us hl => match us, hl with | [_, _], _ => rfl,
    m_Line_meets := ⟨a_Line_meets, i_Line_meets, k_Line_meets⟩,
    F_Line_meets := fun_mk (st := s_Line_meets) l_Line_meets hc_Line_meets k_Line_meets,
    b_Line_meets := (fun_mk (st := s_Line_meets) l_Line_meets hc_Line_meets k_Line_meets).binds (ps := ["self", "other"]) fun _ _ _ _ _ _ us hl => match us, hl with | [_, _], _ => rfl,
    g_law_pot := PySem.W.mg_of X G a_law_pot,
    F_law_pot := fun_mk (st := s_law_pot) l_law_pot hc_law_pot k_law_pot,
    b_law_pot := (fun_mk (st := s_law_pot) l_law_pot hc_law_pot k_law_pot).binds (ps := ["script", "k"]) fun _ _ _ _ _ _ us hl => match us, hl with | [_, _], _ => rfl,
    g_law_take := PySem.W.mg_of X G a_law_take,
    F_law_take := fun_mk (st := s_law_take) l_law_take hc_law_take k_law_take,
    b_law_take := (fun_mk (st := s_law_take) l_law_take hc_law_take k_law_take).binds (ps := ["pot", "upto"]) fun _ _ _ _ _ _ us hl => match us, hl with | [_, _], _ => rfl,
    g_law_of := PySem.W.mg_of X G a_law_of,
    F_law_of := fun_mk (st := s_law_of) l_law_of hc_law_of k_law_of,
    b_law_of := (fun_mk (st := s_law_of) l_law_of hc_law_of k_law_of).binds (ps := ["pot", "some"]) fun _ _ _ _ _ _ us hl => match us, hl with | [_, _], _ => rfl,
    g_law_drawn := PySem.W.mg_of X G a_law_drawn,
    F_law_drawn := fun_mk (st := s_law_drawn) l_law_drawn hc_law_drawn k_law_drawn,
    b_law_drawn := (fun_mk (st := s_law_drawn) l_law_drawn hc_law_drawn k_law_drawn).binds (ps := ["pot"]) fun _ _ _ _ _ _ us hl => match us, hl with | [_], _ => rfl,
    g_law_number := PySem.W.mg_of X G a_law_number,
    F_law_number := fun_mk (st := s_law_number) l_law_number hc_law_number k_law_number,
    b_law_number := (fun_mk (st := s_law_number) l_law_number hc_law_number k_law_number).binds (ps := ["pair"]) fun _ _ _ _ _ _ us hl => match us, hl with | [_], _ => rfl,
    g_law_least := PySem.W.mg_of X G a_law_least,
    F_law_least := fun_mk (st := s_law_least) l_law_least hc_law_least k_law_least,
    b_law_least := (fun_mk (st := s_law_least) l_law_least hc_law_least k_law_least).binds (ps := ["above", "below"]) fun _ _ _ _ _ _ us hl => match us, hl with | [_, _], _ => rfl,
    g_law_due := PySem.W.mg_of X G a_law_due,
    F_law_due := fun_mk (st := s_law_due) l_law_due hc_law_due k_law_due,
    b_law_due := (fun_mk (st := s_law_due) l_law_due hc_law_due k_law_due).binds (ps := ["a", "b", "c", "d"]) fun _ _ _ _ _ _ us hl => match us, hl with | [_, _, _, _], _ => rfl,
    g_law_is_right := PySem.W.mg_of X G a_law_is_right,
    F_law_is_right := fun_mk (st := s_law_is_right) l_law_is_right hc_law_is_right k_law_is_right,
    b_law_is_right := (fun_mk (st := s_law_is_right) l_law_is_right hc_law_is_right k_law_is_right).binds (ps := ["pot"]) fun _ _ _ _ _ _ us hl => match us, hl with | [_], _ => rfl,
    F_law := fun_mk (st := s_law) l_law hc_law k_law,
    b_law := (fun_mk (st := s_law) l_law hc_law k_law).binds (ps := ["script"]) fun _ _ _ _ _ _ us hl => match us, hl with | [_], _ => rfl,
    z_isinstance := PySem.W.mg_none_of X G z_isinstance,
    z_int := PySem.W.mg_none_of X G z_int,
    z_bool := PySem.W.mg_none_of X G z_bool,
    z_abs := PySem.W.mg_none_of X G z_abs,
    z_len := PySem.W.mg_none_of X G z_len,
    z_max := PySem.W.mg_none_of X G z_max,
    z_min := PySem.W.mg_none_of X G z_min,
    z_range := PySem.W.mg_none_of X G z_range,
    z_all := PySem.W.mg_none_of X G z_all,
    kit_NumNum := kit_NumNum
  }⟩

abbrev LV : Nat := 12
theorem walk {l : PySem.W.OpenLaw} {q : Program} {loose : List Str} {XP : (Str → Option Value) → Heap → Prop} {YP : World → Heap → Prop} {d : DefRec} {K : Params → PySem.W.Frag} (hn : l.most = some 63) (hdf : d.params.defaults = [])
    (hY : ∀ (w : World) (h : Heap), YP w h → (K w.params).In h)
    (F : ∀ (w : World) (mg : Str → Option Value) (fa : Addr) (h : Heap), (K w.params).In h → h.Ns mainGlobals mg → mg d.name = some (.ref fa) →
      ∃ fd : FuncData, (∀ (s : Shared) (u : Value), BindsTo s fd ⟨[u], []⟩ [("script", u)]) ∧ ∀ base : Heap, (K w.params).In base → base.Ns mainGlobals mg → FnOk l.prog w (K w.params) mg base CX0 LV fa fd ["script"] (spLaw (K w.params))) :
    PySem.W.WalkO q loose XP YP l.row.toRowW d [] (fun f vs => PySem.call f vs) :=
  L2.walk_of (n := 63) (k := LV) (x := "script") (CX := fun _ => CX0) (sp := fun w => spLaw (K w.params)) hn (by decide) hdf ⟨rfl, by decide, by decide⟩ hY F (fun _ _ a ns hl _ hS => ⟨a, ns, rfl, hS, hl, fun _ => rfl⟩) fun _ _ _ _ _ z => z
theorem law_mk {P : Program} {w : World} {K : PySem.W.Frag} {h : Heap} {mg : Str → Option Value} {fa : Addr} (X : K.In h) (G : h.Ns mainGlobals mg) (hfa : mg "law" = some (.ref fa))
    {c_Number : Addr}
    {c_Line : Addr}
    {f_is_integer : Addr}
    {oc_is_integer : Value}
    {kV_is_integer : Value}
    {dc_is_integer : Value}
    {pm_is_integer : Value}
    {cd_is_integer : Value}
    {ct_is_integer : Value}
    {od_is_integer : Option Addr}
    {an_is_integer : Option Addr}
    {osl_is_integer : Array (Option Value)}
    {f_shared_divisor : Addr}
    {oc_shared_divisor : Value}
    {kV_shared_divisor : Value}
    {dc_shared_divisor : Value}
    {pm_shared_divisor : Value}
    {cd_shared_divisor : Value}
    {ct_shared_divisor : Value}
    {od_shared_divisor : Option Addr}
    {an_shared_divisor : Option Addr}
    {osl_shared_divisor : Array (Option Value)}
    {f_Number_init : Addr}
    {oc_Number_init : Value}
    {kV_Number_init : Value}
    {dc_Number_init : Value}
    {pm_Number_init : Value}
    {cd_Number_init : Value}
    {ct_Number_init : Value}
    {od_Number_init : Option Addr}
    {an_Number_init : Option Addr}
    {osl_Number_init : Array (Option Value)}
    {T_Number_init : Addr}
    {t_Number_init_0 : Tok}
    {oT_Number_init : Value}
    {dT_Number_init : Option Addr}
    {nT_Number_init : Nat}
    {sT_Number_init : Array (Option Value)}
    {f_Number_top : Addr}
    {p_Number_top : Addr}
    {r_Number_top : List Value}
    {oc_Number_top : Value}
    {kV_Number_top : Value}
    {dc_Number_top : Value}
    {pm_Number_top : Value}
    {cd_Number_top : Value}
    {ct_Number_top : Value}
    {od_Number_top : Option Addr}
    {an_Number_top : Option Addr}
    {osl_Number_top : Array (Option Value)}
    {f_Number_bottom : Addr}
    {p_Number_bottom : Addr}
    {r_Number_bottom : List Value}
    {oc_Number_bottom : Value}
    {kV_Number_bottom : Value}
    {dc_Number_bottom : Value}
    {pm_Number_bottom : Value}
    {cd_Number_bottom : Value}
    {ct_Number_bottom : Value}
    {od_Number_bottom : Option Addr}
    {an_Number_bottom : Option Addr}
    {osl_Number_bottom : Array (Option Value)}
    {f_Number_eq : Addr}
    {oc_Number_eq : Value}
    {kV_Number_eq : Value}
    {dc_Number_eq : Value}
    {pm_Number_eq : Value}
    {cd_Number_eq : Value}
    {ct_Number_eq : Value}
    {od_Number_eq : Option Addr}
    {an_Number_eq : Option Addr}
    {osl_Number_eq : Array (Option Value)}
    {f_Number_add : Addr}
    {oc_Number_add : Value}
    {kV_Number_add : Value}
    {dc_Number_add : Value}
    {pm_Number_add : Value}
    {cd_Number_add : Value}
    {ct_Number_add : Value}
    {od_Number_add : Option Addr}
    {an_Number_add : Option Addr}
    {osl_Number_add : Array (Option Value)}
    {f_Number_sub : Addr}
    {oc_Number_sub : Value}
    {kV_Number_sub : Value}
    {dc_Number_sub : Value}
    {pm_Number_sub : Value}
    {cd_Number_sub : Value}
    {ct_Number_sub : Value}
    {od_Number_sub : Option Addr}
    {an_Number_sub : Option Addr}
    {osl_Number_sub : Array (Option Value)}
    {f_Number_mul : Addr}
    {oc_Number_mul : Value}
    {kV_Number_mul : Value}
    {dc_Number_mul : Value}
    {pm_Number_mul : Value}
    {cd_Number_mul : Value}
    {ct_Number_mul : Value}
    {od_Number_mul : Option Addr}
    {an_Number_mul : Option Addr}
    {osl_Number_mul : Array (Option Value)}
    {f_Number_divided_by : Addr}
    {oc_Number_divided_by : Value}
    {kV_Number_divided_by : Value}
    {dc_Number_divided_by : Value}
    {pm_Number_divided_by : Value}
    {cd_Number_divided_by : Value}
    {ct_Number_divided_by : Value}
    {od_Number_divided_by : Option Addr}
    {an_Number_divided_by : Option Addr}
    {osl_Number_divided_by : Array (Option Value)}
    {f_Line_init : Addr}
    {oc_Line_init : Value}
    {kV_Line_init : Value}
    {dc_Line_init : Value}
    {pm_Line_init : Value}
    {cd_Line_init : Value}
    {ct_Line_init : Value}
    {od_Line_init : Option Addr}
    {an_Line_init : Option Addr}
    {osl_Line_init : Array (Option Value)}
    {f_Line_call : Addr}
    {oc_Line_call : Value}
    {kV_Line_call : Value}
    {dc_Line_call : Value}
    {pm_Line_call : Value}
    {cd_Line_call : Value}
    {ct_Line_call : Value}
    {od_Line_call : Option Addr}
    {an_Line_call : Option Addr}
    {osl_Line_call : Array (Option Value)}
    {f_Line_meets : Addr}
    {oc_Line_meets : Value}
    {kV_Line_meets : Value}
    {dc_Line_meets : Value}
    {pm_Line_meets : Value}
    {cd_Line_meets : Value}
    {ct_Line_meets : Value}
    {od_Line_meets : Option Addr}
    {an_Line_meets : Option Addr}
    {osl_Line_meets : Array (Option Value)}
    {f_law_pot : Addr}
    {oc_law_pot : Value}
    {kV_law_pot : Value}
    {dc_law_pot : Value}
    {pm_law_pot : Value}
    {cd_law_pot : Value}
    {ct_law_pot : Value}
    {od_law_pot : Option Addr}
    {an_law_pot : Option Addr}
    {osl_law_pot : Array (Option Value)}
    {f_law_take : Addr}
    {oc_law_take : Value}
    {kV_law_take : Value}
    {dc_law_take : Value}
    {pm_law_take : Value}
    {cd_law_take : Value}
    {ct_law_take : Value}
    {od_law_take : Option Addr}
    {an_law_take : Option Addr}
    {osl_law_take : Array (Option Value)}
    {f_law_of : Addr}
    {oc_law_of : Value}
    {kV_law_of : Value}
    {dc_law_of : Value}
    {pm_law_of : Value}
    {cd_law_of : Value}
    {ct_law_of : Value}
    {od_law_of : Option Addr}
    {an_law_of : Option Addr}
    {osl_law_of : Array (Option Value)}
    {f_law_drawn : Addr}
    {oc_law_drawn : Value}
    {kV_law_drawn : Value}
    {dc_law_drawn : Value}
    {pm_law_drawn : Value}
    {cd_law_drawn : Value}
    {ct_law_drawn : Value}
    {od_law_drawn : Option Addr}
    {an_law_drawn : Option Addr}
    {osl_law_drawn : Array (Option Value)}
    {f_law_number : Addr}
    {oc_law_number : Value}
    {kV_law_number : Value}
    {dc_law_number : Value}
    {pm_law_number : Value}
    {cd_law_number : Value}
    {ct_law_number : Value}
    {od_law_number : Option Addr}
    {an_law_number : Option Addr}
    {osl_law_number : Array (Option Value)}
    {f_law_least : Addr}
    {oc_law_least : Value}
    {kV_law_least : Value}
    {dc_law_least : Value}
    {pm_law_least : Value}
    {cd_law_least : Value}
    {ct_law_least : Value}
    {od_law_least : Option Addr}
    {an_law_least : Option Addr}
    {osl_law_least : Array (Option Value)}
    {f_law_due : Addr}
    {oc_law_due : Value}
    {kV_law_due : Value}
    {dc_law_due : Value}
    {pm_law_due : Value}
    {cd_law_due : Value}
    {ct_law_due : Value}
    {od_law_due : Option Addr}
    {an_law_due : Option Addr}
    {osl_law_due : Array (Option Value)}
    {f_law_is_right : Addr}
    {oc_law_is_right : Value}
    {kV_law_is_right : Value}
    {dc_law_is_right : Value}
    {pm_law_is_right : Value}
    {cd_law_is_right : Value}
    {ct_law_is_right : Value}
    {od_law_is_right : Option Addr}
    {an_law_is_right : Option Addr}
    {osl_law_is_right : Array (Option Value)}
    {f_law : Addr}
    {oc_law : Value}
    {kV_law : Value}
    {dc_law : Value}
    {pm_law : Value}
    {cd_law : Value}
    {ct_law : Value}
    {od_law : Option Addr}
    {an_law : Option Addr}
    {osl_law : Array (Option Value)}
    (a_Number : PySem.W.nsIn K mainGlobals "Number" = some (some (.ref c_Number)))
    (pg_Number : PySem.W.plainGet K c_Number Str.empty = true)
    (hd_Number : PySem.W.hasDictIn K c_Number = true)
    (po_Number : PySem.W.plainOver K c_Number = true)
    (sa_Number : PySem.W.findIn K (.ref c_Number) "__setattr__" = some (some (.builtin "object.__setattr__")))
    (mk_Number : PySem.W.makesIn K c_Number = true)
    (kc_Number : PySem.W.keepIn K (.ref c_Number) = true)
    (sf_Number : PySem.W.selfFirst K c_Number = true)
    (ca_Number : PySem.W.findIn K (.ref c_Number) "__class__" = some (some (.builtin "object.__class__")))
    (cm_Number : PySem.W.mroIn K c_Number (.type "object") = some true)
    (n_Number_own_top : PySem.W.findIn K (.ref c_Number) "own_top" = some none)
    (n_Number_own_bottom : PySem.W.findIn K (.ref c_Number) "own_bottom" = some none)
    (a_Line : PySem.W.nsIn K mainGlobals "Line" = some (some (.ref c_Line)))
    (pg_Line : PySem.W.plainGet K c_Line Str.empty = true)
    (hd_Line : PySem.W.hasDictIn K c_Line = true)
    (po_Line : PySem.W.plainOver K c_Line = true)
    (sa_Line : PySem.W.findIn K (.ref c_Line) "__setattr__" = some (some (.builtin "object.__setattr__")))
    (mk_Line : PySem.W.makesIn K c_Line = true)
    (kc_Line : PySem.W.keepIn K (.ref c_Line) = true)
    (sf_Line : PySem.W.selfFirst K c_Line = true)
    (ca_Line : PySem.W.findIn K (.ref c_Line) "__class__" = some (some (.builtin "object.__class__")))
    (cm_Line : PySem.W.mroIn K c_Line (.type "object") = some true)
    (n_Line_own_base : PySem.W.findIn K (.ref c_Line) "own_base" = some none)
    (n_Line_own_slope : PySem.W.findIn K (.ref c_Line) "own_slope" = some none)
    (cn : PySem.W.specialIn K (.builtin "object.__class__") "__get__" = some (some (.builtin "getset_descriptor.__get__")))
    (ct : PySem.W.takesIn K (.builtin "object.__class__") = some true)
    (a_is_integer : PySem.W.nsIn K mainGlobals "is_integer" = some (some (.ref f_is_integer)))
    (l_is_integer : K.lookup f_is_integer = some ⟨oc_is_integer, od_is_integer, .func (PySem.W.fnOf "is_integer" "is_integer" (defArgs s_is_integer) (defBody s_is_integer) (defScope s_is_integer) .none kV_is_integer dc_is_integer pm_is_integer an_is_integer cd_is_integer ct_is_integer), osl_is_integer⟩)
    (hc_is_integer : PySem.W.codeIn K cd_is_integer "is_integer" = true)
    (k_is_integer : PySem.W.keepIn K (.ref f_is_integer) = true)
    (a_shared_divisor : PySem.W.nsIn K mainGlobals "shared_divisor" = some (some (.ref f_shared_divisor)))
    (l_shared_divisor : K.lookup f_shared_divisor = some ⟨oc_shared_divisor, od_shared_divisor, .func (PySem.W.fnOf "shared_divisor" "shared_divisor" (defArgs s_shared_divisor) (defBody s_shared_divisor) (defScope s_shared_divisor) .none kV_shared_divisor dc_shared_divisor pm_shared_divisor an_shared_divisor cd_shared_divisor ct_shared_divisor), osl_shared_divisor⟩)
    (hc_shared_divisor : PySem.W.codeIn K cd_shared_divisor "shared_divisor" = true)
    (k_shared_divisor : PySem.W.keepIn K (.ref f_shared_divisor) = true)
    (a_Number_init : PySem.W.findIn K (.ref c_Number) "__init__" = some (some (.ref f_Number_init)))
    (i_Number_init : PySem.W.isFn K (.ref f_Number_init) = true)
    (l_Number_init : K.lookup f_Number_init = some ⟨oc_Number_init, od_Number_init, .func (PySem.W.fnOf "__init__" "Number.__init__" (defArgs s_Number_init) (defBody s_Number_init) (defScope s_Number_init) (.ref T_Number_init) kV_Number_init dc_Number_init pm_Number_init an_Number_init cd_Number_init ct_Number_init), osl_Number_init⟩)
    (hc_Number_init : PySem.W.codeIn K cd_Number_init "Number.__init__" = true)
    (k_Number_init : PySem.W.keepIn K (.ref f_Number_init) = true)
    (lT_Number_init : K.lookup T_Number_init = some ⟨oT_Number_init, dT_Number_init, .seq #[.int 1 t_Number_init_0] nT_Number_init, sT_Number_init⟩)
    (at_Number_top : PySem.W.findIn K (.ref c_Number) "top" = some (some (.ref p_Number_top)))
    (gt_Number_top : PySem.W.specialIn K (.ref p_Number_top) "__get__" = some (some (.builtin "property.__get__")))
    (tk_Number_top : PySem.W.takesIn K (.ref p_Number_top) = some true)
    (rc_Number_top : PySem.W.recIn K p_Number_top "property" = some (.ref f_Number_top :: r_Number_top))
    (l_Number_top : K.lookup f_Number_top = some ⟨oc_Number_top, od_Number_top, .func (PySem.W.fnOf "top" "Number.top" (defArgs s_Number_top) (defBody s_Number_top) (defScope s_Number_top) .none kV_Number_top dc_Number_top pm_Number_top an_Number_top cd_Number_top ct_Number_top), osl_Number_top⟩)
    (hc_Number_top : PySem.W.codeIn K cd_Number_top "Number.top" = true)
    (k_Number_top : PySem.W.keepIn K (.ref f_Number_top) = true)
    (at_Number_bottom : PySem.W.findIn K (.ref c_Number) "bottom" = some (some (.ref p_Number_bottom)))
    (gt_Number_bottom : PySem.W.specialIn K (.ref p_Number_bottom) "__get__" = some (some (.builtin "property.__get__")))
    (tk_Number_bottom : PySem.W.takesIn K (.ref p_Number_bottom) = some true)
    (rc_Number_bottom : PySem.W.recIn K p_Number_bottom "property" = some (.ref f_Number_bottom :: r_Number_bottom))
    (l_Number_bottom : K.lookup f_Number_bottom = some ⟨oc_Number_bottom, od_Number_bottom, .func (PySem.W.fnOf "bottom" "Number.bottom" (defArgs s_Number_bottom) (defBody s_Number_bottom) (defScope s_Number_bottom) .none kV_Number_bottom dc_Number_bottom pm_Number_bottom an_Number_bottom cd_Number_bottom ct_Number_bottom), osl_Number_bottom⟩)
    (hc_Number_bottom : PySem.W.codeIn K cd_Number_bottom "Number.bottom" = true)
    (k_Number_bottom : PySem.W.keepIn K (.ref f_Number_bottom) = true)
    (a_Number_eq : PySem.W.findIn K (.ref c_Number) "__eq__" = some (some (.ref f_Number_eq)))
    (i_Number_eq : PySem.W.isFn K (.ref f_Number_eq) = true)
    (l_Number_eq : K.lookup f_Number_eq = some ⟨oc_Number_eq, od_Number_eq, .func (PySem.W.fnOf "__eq__" "Number.__eq__" (defArgs s_Number_eq) (defBody s_Number_eq) (defScope s_Number_eq) .none kV_Number_eq dc_Number_eq pm_Number_eq an_Number_eq cd_Number_eq ct_Number_eq), osl_Number_eq⟩)
    (hc_Number_eq : PySem.W.codeIn K cd_Number_eq "Number.__eq__" = true)
    (k_Number_eq : PySem.W.keepIn K (.ref f_Number_eq) = true)
    (a_Number_add : PySem.W.findIn K (.ref c_Number) "__add__" = some (some (.ref f_Number_add)))
    (i_Number_add : PySem.W.isFn K (.ref f_Number_add) = true)
    (l_Number_add : K.lookup f_Number_add = some ⟨oc_Number_add, od_Number_add, .func (PySem.W.fnOf "__add__" "Number.__add__" (defArgs s_Number_add) (defBody s_Number_add) (defScope s_Number_add) .none kV_Number_add dc_Number_add pm_Number_add an_Number_add cd_Number_add ct_Number_add), osl_Number_add⟩)
    (hc_Number_add : PySem.W.codeIn K cd_Number_add "Number.__add__" = true)
    (k_Number_add : PySem.W.keepIn K (.ref f_Number_add) = true)
    (a_Number_sub : PySem.W.findIn K (.ref c_Number) "__sub__" = some (some (.ref f_Number_sub)))
    (i_Number_sub : PySem.W.isFn K (.ref f_Number_sub) = true)
    (l_Number_sub : K.lookup f_Number_sub = some ⟨oc_Number_sub, od_Number_sub, .func (PySem.W.fnOf "__sub__" "Number.__sub__" (defArgs s_Number_sub) (defBody s_Number_sub) (defScope s_Number_sub) .none kV_Number_sub dc_Number_sub pm_Number_sub an_Number_sub cd_Number_sub ct_Number_sub), osl_Number_sub⟩)
    (hc_Number_sub : PySem.W.codeIn K cd_Number_sub "Number.__sub__" = true)
    (k_Number_sub : PySem.W.keepIn K (.ref f_Number_sub) = true)
    (a_Number_mul : PySem.W.findIn K (.ref c_Number) "__mul__" = some (some (.ref f_Number_mul)))
    (i_Number_mul : PySem.W.isFn K (.ref f_Number_mul) = true)
    (l_Number_mul : K.lookup f_Number_mul = some ⟨oc_Number_mul, od_Number_mul, .func (PySem.W.fnOf "__mul__" "Number.__mul__" (defArgs s_Number_mul) (defBody s_Number_mul) (defScope s_Number_mul) .none kV_Number_mul dc_Number_mul pm_Number_mul an_Number_mul cd_Number_mul ct_Number_mul), osl_Number_mul⟩)
    (hc_Number_mul : PySem.W.codeIn K cd_Number_mul "Number.__mul__" = true)
    (k_Number_mul : PySem.W.keepIn K (.ref f_Number_mul) = true)
    (a_Number_divided_by : PySem.W.findIn K (.ref c_Number) "divided_by" = some (some (.ref f_Number_divided_by)))
    (i_Number_divided_by : PySem.W.isFn K (.ref f_Number_divided_by) = true)
    (l_Number_divided_by : K.lookup f_Number_divided_by = some ⟨oc_Number_divided_by, od_Number_divided_by, .func (PySem.W.fnOf "divided_by" "Number.divided_by" (defArgs s_Number_divided_by) (defBody s_Number_divided_by) (defScope s_Number_divided_by) .none kV_Number_divided_by dc_Number_divided_by pm_Number_divided_by an_Number_divided_by cd_Number_divided_by ct_Number_divided_by), osl_Number_divided_by⟩)
    (hc_Number_divided_by : PySem.W.codeIn K cd_Number_divided_by "Number.divided_by" = true)
    (k_Number_divided_by : PySem.W.keepIn K (.ref f_Number_divided_by) = true)
    (a_Line_init : PySem.W.findIn K (.ref c_Line) "__init__" = some (some (.ref f_Line_init)))
    (i_Line_init : PySem.W.isFn K (.ref f_Line_init) = true)
    (l_Line_init : K.lookup f_Line_init = some ⟨oc_Line_init, od_Line_init, .func (PySem.W.fnOf "__init__" "Line.__init__" (defArgs s_Line_init) (defBody s_Line_init) (defScope s_Line_init) .none kV_Line_init dc_Line_init pm_Line_init an_Line_init cd_Line_init ct_Line_init), osl_Line_init⟩)
    (hc_Line_init : PySem.W.codeIn K cd_Line_init "Line.__init__" = true)
    (k_Line_init : PySem.W.keepIn K (.ref f_Line_init) = true)
    (a_Line_call : PySem.W.findIn K (.ref c_Line) "__call__" = some (some (.ref f_Line_call)))
    (i_Line_call : PySem.W.isFn K (.ref f_Line_call) = true)
    (fi_Line_call : PySem.W.fnIn K f_Line_call = true)
    (l_Line_call : K.lookup f_Line_call = some ⟨oc_Line_call, od_Line_call, .func (PySem.W.fnOf "__call__" "Line.__call__" (defArgs s_Line_call) (defBody s_Line_call) (defScope s_Line_call) .none kV_Line_call dc_Line_call pm_Line_call an_Line_call cd_Line_call ct_Line_call), osl_Line_call⟩)
    (hc_Line_call : PySem.W.codeIn K cd_Line_call "Line.__call__" = true)
    (k_Line_call : PySem.W.keepIn K (.ref f_Line_call) = true)
    (a_Line_meets : PySem.W.findIn K (.ref c_Line) "meets" = some (some (.ref f_Line_meets)))
    (i_Line_meets : PySem.W.isFn K (.ref f_Line_meets) = true)
    (l_Line_meets : K.lookup f_Line_meets = some ⟨oc_Line_meets, od_Line_meets, .func (PySem.W.fnOf "meets" "Line.meets" (defArgs s_Line_meets) (defBody s_Line_meets) (defScope s_Line_meets) .none kV_Line_meets dc_Line_meets pm_Line_meets an_Line_meets cd_Line_meets ct_Line_meets), osl_Line_meets⟩)
    (hc_Line_meets : PySem.W.codeIn K cd_Line_meets "Line.meets" = true)
    (k_Line_meets : PySem.W.keepIn K (.ref f_Line_meets) = true)
    (a_law_pot : PySem.W.nsIn K mainGlobals "_law_pot" = some (some (.ref f_law_pot)))
    (l_law_pot : K.lookup f_law_pot = some ⟨oc_law_pot, od_law_pot, .func (PySem.W.fnOf "_law_pot" "_law_pot" (defArgs s_law_pot) (defBody s_law_pot) (defScope s_law_pot) .none kV_law_pot dc_law_pot pm_law_pot an_law_pot cd_law_pot ct_law_pot), osl_law_pot⟩)
    (hc_law_pot : PySem.W.codeIn K cd_law_pot "_law_pot" = true)
    (k_law_pot : PySem.W.keepIn K (.ref f_law_pot) = true)
    (a_law_take : PySem.W.nsIn K mainGlobals "_law_take" = some (some (.ref f_law_take)))
    (l_law_take : K.lookup f_law_take = some ⟨oc_law_take, od_law_take, .func (PySem.W.fnOf "_law_take" "_law_take" (defArgs s_law_take) (defBody s_law_take) (defScope s_law_take) .none kV_law_take dc_law_take pm_law_take an_law_take cd_law_take ct_law_take), osl_law_take⟩)
    (hc_law_take : PySem.W.codeIn K cd_law_take "_law_take" = true)
    (k_law_take : PySem.W.keepIn K (.ref f_law_take) = true)
    (a_law_of : PySem.W.nsIn K mainGlobals "_law_of" = some (some (.ref f_law_of)))
    (l_law_of : K.lookup f_law_of = some ⟨oc_law_of, od_law_of, .func (PySem.W.fnOf "_law_of" "_law_of" (defArgs s_law_of) (defBody s_law_of) (defScope s_law_of) .none kV_law_of dc_law_of pm_law_of an_law_of cd_law_of ct_law_of), osl_law_of⟩)
    (hc_law_of : PySem.W.codeIn K cd_law_of "_law_of" = true)
    (k_law_of : PySem.W.keepIn K (.ref f_law_of) = true)
    (a_law_drawn : PySem.W.nsIn K mainGlobals "_law_drawn" = some (some (.ref f_law_drawn)))
    (l_law_drawn : K.lookup f_law_drawn = some ⟨oc_law_drawn, od_law_drawn, .func (PySem.W.fnOf "_law_drawn" "_law_drawn" (defArgs s_law_drawn) (defBody s_law_drawn) (defScope s_law_drawn) .none kV_law_drawn dc_law_drawn pm_law_drawn an_law_drawn cd_law_drawn ct_law_drawn), osl_law_drawn⟩)
    (hc_law_drawn : PySem.W.codeIn K cd_law_drawn "_law_drawn" = true)
    (k_law_drawn : PySem.W.keepIn K (.ref f_law_drawn) = true)
    (a_law_number : PySem.W.nsIn K mainGlobals "_law_number" = some (some (.ref f_law_number)))
    (l_law_number : K.lookup f_law_number = some ⟨oc_law_number, od_law_number, .func (PySem.W.fnOf "_law_number" "_law_number" (defArgs s_law_number) (defBody s_law_number) (defScope s_law_number) .none kV_law_number dc_law_number pm_law_number an_law_number cd_law_number ct_law_number), osl_law_number⟩)
    (hc_law_number : PySem.W.codeIn K cd_law_number "_law_number" = true)
    (k_law_number : PySem.W.keepIn K (.ref f_law_number) = true)
    (a_law_least : PySem.W.nsIn K mainGlobals "_law_least" = some (some (.ref f_law_least)))
    (l_law_least : K.lookup f_law_least = some ⟨oc_law_least, od_law_least, .func (PySem.W.fnOf "_law_least" "_law_least" (defArgs s_law_least) (defBody s_law_least) (defScope s_law_least) .none kV_law_least dc_law_least pm_law_least an_law_least cd_law_least ct_law_least), osl_law_least⟩)
    (hc_law_least : PySem.W.codeIn K cd_law_least "_law_least" = true)
    (k_law_least : PySem.W.keepIn K (.ref f_law_least) = true)
    (a_law_due : PySem.W.nsIn K mainGlobals "_law_due" = some (some (.ref f_law_due)))
    (l_law_due : K.lookup f_law_due = some ⟨oc_law_due, od_law_due, .func (PySem.W.fnOf "_law_due" "_law_due" (defArgs s_law_due) (defBody s_law_due) (defScope s_law_due) .none kV_law_due dc_law_due pm_law_due an_law_due cd_law_due ct_law_due), osl_law_due⟩)
    (hc_law_due : PySem.W.codeIn K cd_law_due "_law_due" = true)
    (k_law_due : PySem.W.keepIn K (.ref f_law_due) = true)
    (a_law_is_right : PySem.W.nsIn K mainGlobals "_law_is_right" = some (some (.ref f_law_is_right)))
    (l_law_is_right : K.lookup f_law_is_right = some ⟨oc_law_is_right, od_law_is_right, .func (PySem.W.fnOf "_law_is_right" "_law_is_right" (defArgs s_law_is_right) (defBody s_law_is_right) (defScope s_law_is_right) .none kV_law_is_right dc_law_is_right pm_law_is_right an_law_is_right cd_law_is_right ct_law_is_right), osl_law_is_right⟩)
    (hc_law_is_right : PySem.W.codeIn K cd_law_is_right "_law_is_right" = true)
    (k_law_is_right : PySem.W.keepIn K (.ref f_law_is_right) = true)
    (a_law : PySem.W.nsIn K mainGlobals "law" = some (some (.ref f_law)))
    (l_law : K.lookup f_law = some ⟨oc_law, od_law, .func (PySem.W.fnOf "law" "law" (defArgs s_law) (defBody s_law) (defScope s_law) .none kV_law dc_law pm_law an_law cd_law ct_law), osl_law⟩)
    (hc_law : PySem.W.codeIn K cd_law "law" = true)
    (k_law : PySem.W.keepIn K (.ref f_law) = true)
    (z_isinstance : PySem.W.nsIn K mainGlobals "isinstance" = some none)
    (z_int : PySem.W.nsIn K mainGlobals "int" = some none)
    (z_bool : PySem.W.nsIn K mainGlobals "bool" = some none)
    (z_abs : PySem.W.nsIn K mainGlobals "abs" = some none)
    (z_len : PySem.W.nsIn K mainGlobals "len" = some none)
    (z_max : PySem.W.nsIn K mainGlobals "max" = some none)
    (z_min : PySem.W.nsIn K mainGlobals "min" = some none)
    (z_range : PySem.W.nsIn K mainGlobals "range" = some none)
    (z_all : PySem.W.nsIn K mainGlobals "all" = some none)
    (kit_NumNum : PySem.W.kitOne K (.ref c_Number) (.ref c_Number) = some true)
    : ∃ fd : FuncData, (∀ (s : Shared) (v : Value), BindsTo s fd ⟨[v], []⟩ [("script", v)]) ∧ ∀ base : Heap, K.In base → base.Ns mainGlobals mg → FnOk P w K mg base CX0 LV fa fd ["script"] (spLaw K) := by
  obtain ⟨A, eA, T⟩ := all_mk X G a_Number pg_Number hd_Number po_Number sa_Number mk_Number kc_Number sf_Number ca_Number cm_Number n_Number_own_top n_Number_own_bottom a_Line pg_Line hd_Line po_Line sa_Line mk_Line kc_Line sf_Line ca_Line cm_Line n_Line_own_base n_Line_own_slope cn ct a_is_integer l_is_integer hc_is_integer k_is_integer a_shared_divisor l_shared_divisor hc_shared_divisor k_shared_divisor a_Number_init i_Number_init l_Number_init hc_Number_init k_Number_init lT_Number_init at_Number_top gt_Number_top tk_Number_top rc_Number_top l_Number_top hc_Number_top k_Number_top at_Number_bottom gt_Number_bottom tk_Number_bottom rc_Number_bottom l_Number_bottom hc_Number_bottom k_Number_bottom a_Number_eq i_Number_eq l_Number_eq hc_Number_eq k_Number_eq a_Number_add i_Number_add l_Number_add hc_Number_add k_Number_add a_Number_sub i_Number_sub l_Number_sub hc_Number_sub k_Number_sub a_Number_mul i_Number_mul l_Number_mul hc_Number_mul k_Number_mul a_Number_divided_by i_Number_divided_by l_Number_divided_by hc_Number_divided_by k_Number_divided_by a_Line_init i_Line_init l_Line_init hc_Line_init k_Line_init a_Line_call i_Line_call fi_Line_call l_Line_call hc_Line_call k_Line_call a_Line_meets i_Line_meets l_Line_meets hc_Line_meets k_Line_meets a_law_pot l_law_pot hc_law_pot k_law_pot a_law_take l_law_take hc_law_take k_law_take a_law_of l_law_of hc_law_of k_law_of a_law_drawn l_law_drawn hc_law_drawn k_law_drawn a_law_number l_law_number hc_law_number k_law_number a_law_least l_law_least hc_law_least k_law_least a_law_due l_law_due hc_law_due k_law_due a_law_is_right l_law_is_right hc_law_is_right k_law_is_right a_law l_law hc_law k_law z_isinstance z_int z_bool z_abs z_len z_max z_min z_range z_all kit_NumNum
  have e := hfa.symm.trans (PySem.W.mg_of X G a_law)
  cases e
  refine ⟨A.d_law, fun s v => ?_, fun base _ _ => eA ▸ (ok_law T).mono (by decide)⟩
  obtain ⟨oc, od, kV, doc, pm, an, cdv, ct, osl, hfd, _, _⟩ := T.F_law.ex
  rw [hfd]
  exact .of_eq rfl
end Q
open PySem PySem.W PyProof.Rows
set_option maxRecDepth 100000 in
set_option maxHeartbeats 0 in
theorem PySem.Challenge.cw_whatspeed_k06_where_lines_meet_holds : PySem.Challenge.rw_whatspeed_k06_where_lines_meet.Holds := by
  w_on; o_law; k_head; (case hw => w_witness2)
  k_fill
  refine Q.walk (l := PySem.Challenge.rw_whatspeed_k06_where_lines_meet) rfl rfl (fun w h Y => PySem.W.kIn_of Y) ?F
  case F =>
    intro w mg fa h KX G hmg
    refine' Q.law_mk KX G hmg ?a_Number ?pg_Number ?hd_Number ?po_Number ?sa_Number ?mk_Number ?kc_Number ?sf_Number ?ca_Number ?cm_Number ?n_Number_own_top ?n_Number_own_bottom ?a_Line ?pg_Line ?hd_Line ?po_Line ?sa_Line ?mk_Line ?kc_Line ?sf_Line ?ca_Line ?cm_Line ?n_Line_own_base ?n_Line_own_slope ?cn ?ct ?a_is_integer ?l_is_integer ?hc_is_integer ?k_is_integer ?a_shared_divisor ?l_shared_divisor ?hc_shared_divisor ?k_shared_divisor ?a_Number_init ?i_Number_init ?l_Number_init ?hc_Number_init ?k_Number_init ?lT_Number_init ?at_Number_top ?gt_Number_top ?tk_Number_top ?rc_Number_top ?l_Number_top ?hc_Number_top ?k_Number_top ?at_Number_bottom ?gt_Number_bottom ?tk_Number_bottom ?rc_Number_bottom ?l_Number_bottom ?hc_Number_bottom ?k_Number_bottom ?a_Number_eq ?i_Number_eq ?l_Number_eq ?hc_Number_eq ?k_Number_eq ?a_Number_add ?i_Number_add ?l_Number_add ?hc_Number_add ?k_Number_add ?a_Number_sub ?i_Number_sub ?l_Number_sub ?hc_Number_sub ?k_Number_sub ?a_Number_mul ?i_Number_mul ?l_Number_mul ?hc_Number_mul ?k_Number_mul ?a_Number_divided_by ?i_Number_divided_by ?l_Number_divided_by ?hc_Number_divided_by ?k_Number_divided_by ?a_Line_init ?i_Line_init ?l_Line_init ?hc_Line_init ?k_Line_init ?a_Line_call ?i_Line_call ?fi_Line_call ?l_Line_call ?hc_Line_call ?k_Line_call ?a_Line_meets ?i_Line_meets ?l_Line_meets ?hc_Line_meets ?k_Line_meets ?a_law_pot ?l_law_pot ?hc_law_pot ?k_law_pot ?a_law_take ?l_law_take ?hc_law_take ?k_law_take ?a_law_of ?l_law_of ?hc_law_of ?k_law_of ?a_law_drawn ?l_law_drawn ?hc_law_drawn ?k_law_drawn ?a_law_number ?l_law_number ?hc_law_number ?k_law_number ?a_law_least ?l_law_least ?hc_law_least ?k_law_least ?a_law_due ?l_law_due ?hc_law_due ?k_law_due ?a_law_is_right ?l_law_is_right ?hc_law_is_right ?k_law_is_right ?a_law ?l_law ?hc_law ?k_law ?z_isinstance ?z_int ?z_bool ?z_abs ?z_len ?z_max ?z_min ?z_range ?z_all ?kit_NumNum
    (case a_Number => k_is)
    (case pg_Number => k_is)
    (case hd_Number => k_is)
    (case po_Number => k_is)
    (case sa_Number => k_is)
    (case mk_Number => k_is)
    (case kc_Number => k_is)
    (case sf_Number => k_is)
    (case ca_Number => k_is)
    (case cm_Number => k_is)
    (case n_Number_own_top => k_is)
    (case n_Number_own_bottom => k_is)
    (case a_Line => k_is)
    (case pg_Line => k_is)
    (case hd_Line => k_is)
    (case po_Line => k_is)
    (case sa_Line => k_is)
    (case mk_Line => k_is)
    (case kc_Line => k_is)
    (case sf_Line => k_is)
    (case ca_Line => k_is)
    (case cm_Line => k_is)
    (case n_Line_own_base => k_is)
    (case n_Line_own_slope => k_is)
    (case cn => k_is)
    (case ct => k_is)
    (case a_is_integer => k_is)
    (case l_is_integer => k_is)
    (case hc_is_integer => k_is)
    (case k_is_integer => k_is)
    (case a_shared_divisor => k_is)
    (case l_shared_divisor => k_is)
    (case hc_shared_divisor => k_is)
    (case k_shared_divisor => k_is)
    (case a_Number_init => k_is)
    (case i_Number_init => k_is)
    (case l_Number_init => k_is)
    (case hc_Number_init => k_is)
    (case k_Number_init => k_is)
    (case lT_Number_init => k_is)
    (case at_Number_top => k_is)
    (case gt_Number_top => k_is)
    (case tk_Number_top => k_is)
    (case rc_Number_top => k_is)
    (case l_Number_top => k_is)
    (case hc_Number_top => k_is)
    (case k_Number_top => k_is)
    (case at_Number_bottom => k_is)
    (case gt_Number_bottom => k_is)
    (case tk_Number_bottom => k_is)
    (case rc_Number_bottom => k_is)
    (case l_Number_bottom => k_is)
    (case hc_Number_bottom => k_is)
    (case k_Number_bottom => k_is)
    (case a_Number_eq => k_is)
    (case i_Number_eq => k_is)
    (case l_Number_eq => k_is)
    (case hc_Number_eq => k_is)
    (case k_Number_eq => k_is)
    (case a_Number_add => k_is)
    (case i_Number_add => k_is)
    (case l_Number_add => k_is)
    (case hc_Number_add => k_is)
    (case k_Number_add => k_is)
    (case a_Number_sub => k_is)
    (case i_Number_sub => k_is)
    (case l_Number_sub => k_is)
    (case hc_Number_sub => k_is)
    (case k_Number_sub => k_is)
    (case a_Number_mul => k_is)
    (case i_Number_mul => k_is)
    (case l_Number_mul => k_is)
    (case hc_Number_mul => k_is)
    (case k_Number_mul => k_is)
    (case a_Number_divided_by => k_is)
    (case i_Number_divided_by => k_is)
    (case l_Number_divided_by => k_is)
    (case hc_Number_divided_by => k_is)
    (case k_Number_divided_by => k_is)
    (case a_Line_init => k_is)
    (case i_Line_init => k_is)
    (case l_Line_init => k_is)
    (case hc_Line_init => k_is)
    (case k_Line_init => k_is)
    (case a_Line_call => k_is)
    (case i_Line_call => k_is)
    (case fi_Line_call => k_is)
    (case l_Line_call => k_is)
    (case hc_Line_call => k_is)
    (case k_Line_call => k_is)
    (case a_Line_meets => k_is)
    (case i_Line_meets => k_is)
    (case l_Line_meets => k_is)
    (case hc_Line_meets => k_is)
    (case k_Line_meets => k_is)
    (case a_law_pot => k_is)
    (case l_law_pot => k_is)
    (case hc_law_pot => k_is)
    (case k_law_pot => k_is)
    (case a_law_take => k_is)
    (case l_law_take => k_is)
    (case hc_law_take => k_is)
    (case k_law_take => k_is)
    (case a_law_of => k_is)
    (case l_law_of => k_is)
    (case hc_law_of => k_is)
    (case k_law_of => k_is)
    (case a_law_drawn => k_is)
    (case l_law_drawn => k_is)
    (case hc_law_drawn => k_is)
    (case k_law_drawn => k_is)
    (case a_law_number => k_is)
    (case l_law_number => k_is)
    (case hc_law_number => k_is)
    (case k_law_number => k_is)
    (case a_law_least => k_is)
    (case l_law_least => k_is)
    (case hc_law_least => k_is)
    (case k_law_least => k_is)
    (case a_law_due => k_is)
    (case l_law_due => k_is)
    (case hc_law_due => k_is)
    (case k_law_due => k_is)
    (case a_law_is_right => k_is)
    (case l_law_is_right => k_is)
    (case hc_law_is_right => k_is)
    (case k_law_is_right => k_is)
    (case a_law => k_is)
    (case l_law => k_is)
    (case hc_law => k_is)
    (case k_law => k_is)
    (case z_isinstance => k_is)
    (case z_int => k_is)
    (case z_bool => k_is)
    (case z_abs => k_is)
    (case z_len => k_is)
    (case z_max => k_is)
    (case z_min => k_is)
    (case z_range => k_is)
    (case z_all => k_is)
    (case kit_NumNum => kit_is)
