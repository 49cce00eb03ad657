import PyProof.Rows.All
import Wide.All
import OpenK.AllK
import Wide.FinOn
import KE.KOpsOwn
import HandS.ForMost
import HandS.ForExc
import HandS.More
import HandS.Flow
import HandS.Style
import HandS.Defaults
import HandS.MakeKw
import HandS.Slots
import HandS.SlotsOwn
import HandS.IsInst
import HandS.ExcInit
import HandS.TryMany
import HandS.Wide
import HandS.OwnEq
import HandS.RaiseMore
import KE.KStateDown
import Lean
import HandS.Head0
import HandS.Head1
import HandS.Head2
import HandS.HeadEnd
import HandS.HeadHook1
import HandS.HeadHook2
import HandS.ClsMeth
import HandS.ExcField
import KE.GoesEnum
import HandS.Walk
import HandS.MakeKwOnly
import KE.DataEq
import HandS.Text
import HandS.Codes
import KE.IntTextLaws
import PySem.Challenge.RW_winoften_k03_texts_of_ratios
import HandS.FStr
import HandS.Iter
set_option Elab.async false
set_option linter.all false
set_option maxRecDepth 100000
set_option maxHeartbeats 4000000
/-! Wl, part A: rules over the hand layer that the laws of winoften want besides. -/
namespace Wl
open PySem PySem.Spec PyProof.Rows L2

/-! ### heaps -/
theorem same_new {H : Hp} {p : Addr} {o : HO} (n : H p = none) : Same H (upd H p o) := fun b u e => by
  rw [upd_ne (ne_of_none e n)]; exact e
/-- a new object: the heap from then on is any that has it and all that was -/
theorem grow {H : Hp} {o : HO} {R : Addr → Hp → Prop} (h : ∀ p H', Same H H' → H p = none → H' p = some o → R p H') : ∀ p, H p = none → R p (upd H p o) :=
  fun p n => h p _ (same_new n) n upd_same
theorem new_facts {H H1 : Hp} {p : Addr} {o : HO} (n : H p = none) (he : upd H p o = H1) : Same H H1 ∧ H1 p = some o := by
  subst he
  exact ⟨same_new n, upd_same⟩
/-- all but what stands at l stays -/
def SB (l : Addr) (H H' : Hp) : Prop := ∀ b o, H b = some o → b ≠ l → H' b = some o
theorem Same.sb {l : Addr} {H H' : Hp} (h : Same H H') : SB l H H' := fun b o e _ => h b o e
theorem SB.refl (l : Addr) (H : Hp) : SB l H H := fun _ _ e _ => e
theorem SB.trans {l : Addr} {H H1 H2 : Hp} (a : SB l H H1) (b : SB l H1 H2) : SB l H H2 := fun c o e n => b c o (a c o e n) n
theorem SB.upd {l : Addr} {H : Hp} {o : HO} : SB l H (upd H l o) := fun b u e n => by rw [upd_ne n]; exact e
theorem SB.same {l : Addr} {H H' : Hp} (h : SB l H H') (n : H l = none) : Same H H' := fun b o e => h b o e (ne_of_none e n)

theorem sz (n : Nat) (h : n ≤ 1000 := by decide) : n ≤ sizeLine := Nat.le_trans h (by decide)
/-! ### calls by a positional promise -/
def tCallR (sp : Sp) (E : XK) (t : TA) : TE := fun σ H Q => t σ H fun vs H1 => sp vs H1 Q E
section
variable {X : Cx} {CX : CXT} {k : Nat} {f : Addr} {sp : Sp} {E : XK} {x : Str} {p pos : Pos} {e : Expr} {es : List Expr} {t : TA}
theorem pe_callR (F : FnR X.prog X.w X.K X.mg X.base CX k f sp) (hr : Room k X.A) (hk : PySem.W.keepIn X.K (.ref f) = true) (hg : Gl X x) (hm : X.mg x = some (.ref f)) (hx : Passes CX X E) (ha : PA X (e :: es) t)
    (hdb : (x == ("__debug__" : Str)) = false := by decide) (he : starEach (e :: es) X.env = (false, eval e X.env) :: starEach es X.env := by rfl) (hpl : (backTo pos (starEach es X.env)).any (·.1) = false := by rfl) :
    PE X (.Call (.Name x p) (e :: es) [] pos) (tCallR sp E t) := by
  refine ⟨fun pins s σ H Q I h => ?_⟩
  refine wpAny_Call_Name_kw (ld_glob I hg hm ?_ hdb)
  refine PySem.W.callWith_K (h₀ := X.base) I.ok.mod.kin hk (thn (ha.run pos pins s σ H _ I h) fun us s1 ⟨vs, H1, I1, r, q⟩ => ⟨I1.kIn, ?_⟩) he hpl
  exact wpAny_call (run_fnR F hr hx I1 r q)
end

/-! ### integers -/
def CDivNW (_ j : Int) : Prop := j ≠ 0 ∧ j.natAbs.log2 < 9000
theorem op_fdivNW {X : Cx} : OpR X (binaryOp .FloorDiv) (rI CDivNW fun i j => .int (i.fdiv j)) := opI fun _ _ _ _ _ _ _ hc q => floordiv_int hc.1 q (.inl (PyProof.noPylong_of_log2 hc.2))

/-! ### a class with slots: its own operators -/
/-- how the class at C does the operator nm by the def at f, beside ints -/
structure OwnOp (K : PySem.W.Frag) (C : Addr) (nm : String) (f : Addr) : Prop where
  sf : PySem.W.selfFirst K C = true
  hs : PySem.W.findIn K (.ref C) (PySem.dunder nm) = some (some (.ref f))
  hf : PySem.W.isFn K (.ref f) = true
  hr : PySem.W.findIn K (.ref C) (dunderR nm) = some none
  h1 : ∃ fo, PySem.W.findIn K (.type "int") (PySem.dunder nm) = some fo
  h2 : ∃ ro, PySem.W.findIn K (.type "int") (dunderR nm) = some ro
  hsub : PySem.W.subIn K (.type "int") (.ref C) = some false
/-- an int, or an instance of C -/
def NumLike (C : Addr) (y : V) (H : Hp) : Prop := (∃ i, y = .int i) ∨ ∃ b dy ws, y = .ref b ∧ SlX.Slt H b C dy ws
def rBinSl (C : Addr) (sp : Sp) (E : XK) : R2 := fun x y H Q => ∃ a dx vs, x = .ref a ∧ SlX.Slt H a C dx vs ∧ NumLike C y H ∧ sp [x, y] H Q E
section
variable {X : Cx} {CX : CXT} {C f : Addr} {n : Nat} {sp : Sp} {E : XK}
theorem op_binSl {op : Operator} {nm : String} (hi : op.info.2 = nm) (O : OwnOp X.K C nm f) (F : FnR X.prog X.w X.K X.mg X.base CX n f sp) (hr : Room n X.A) (hx : Passes CX X E) : OpR X (binaryOp op) (rBinSl C sp E) := by
  intro pins s σ H x y v u Q I rx ry h
  obtain ⟨a, dx, vs, rfl, ha, hy, q⟩ := h
  subst hi
  cases (show v = Value.ref a from rx)
  obtain ⟨sl, od, _, J, _⟩ := SlX.slt_inst I ha
  obtain ⟨m, hF⟩ := I.fr
  have back : wpAny (model X.prog X.w) X.A (call (.ref f) [.ref a, u]) (PySem.W.CmpBack (EP X pins σ Q)) X.xe s := by
    refine wpAny_mono (wpAny_call (run_fnR (us := [.ref a, u]) (vs := [.ref a, y]) F hr hx I (.cons rfl (.cons ry .nil)) q)) (fun w s' z => ?_) fun _ _ x => x
    obtain ⟨z', H', I', rz, qz⟩ := z
    exact SlX.cmpback rz ⟨z', H', I', rz, qz⟩
  rcases hy with ⟨i, rfl⟩ | ⟨b, dy, ws, rfl, hb⟩
  · obtain ⟨t, rfl⟩ := (show ∃ t, u = Value.int i t from ry)
    obtain ⟨fo, h1⟩ := O.h1
    obtain ⟨ro, h2⟩ := O.h2
    exact PySem.W.ksp_binT (T := "int") hF I.ok.mod.kin J rfl O.sf O.hs O.hf O.hr (.inl rfl) h1 h2 O.hsub back
  · cases (show u = Value.ref b from ry)
    obtain ⟨sl', od', _, J', _⟩ := SlX.slt_inst I hb
    exact PySem.W.binop_K hF I.ok.mod.kin J J'.type O.sf O.hs O.hf back
/-- -x -/
theorem un_negSl (hs : PySem.W.findIn X.K (.ref C) "__neg__" = some (some (.ref f))) (hf : PySem.W.isFn X.K (.ref f) = true) (F : FnR X.prog X.w X.K X.mg X.base CX n f sp) (hr : Room n X.A) (hx : Passes CX X E) :
    UnR X (unaryOp .USub) (fun x H Q => ∃ a dx vs, x = .ref a ∧ SlX.Slt H a C dx vs ∧ sp [x] H Q E) := by
  intro pins s σ H x v Q I rx h
  obtain ⟨a, dx, vs, rfl, ha, q⟩ := h
  cases (show v = Value.ref a from rx)
  obtain ⟨sl, od, _, J, _⟩ := SlX.slt_inst I ha
  obtain ⟨m, hF⟩ := I.fr
  exact PySem.W.ksp_neg hF I.ok.mod.kin J hs hf (wpAny_call (run_fnR (us := [.ref a]) (vs := [.ref a]) F hr hx I (.cons rfl .nil) q))

/-- the type of any value that is met beside an instance of C -/
def TyY (K : PySem.W.Frag) (C : Addr) (y : V) (H : Hp) (t : Value) : Prop := TyX K H y t ∨ (t = .ref C ∧ ∃ b dy ws, y = .ref b ∧ SlX.Slt H b C dy ws)
theorem tyY_looks {pins : List (Addr × Obj)} {σ : L2.St} {H : Hp} {s : Shared} {y : V} {u t : Value} (I : Inv X pins σ H s) (ry : RelV y u) (h : TyY X.K C y H t) : PySem.W.Looks (model X.prog X.w) s.heap (typeOf u) t := by
  rcases h with h | ⟨rfl, b, dy, ws, rfl, hb⟩
  · obtain ⟨P, Z, p, _⟩ := kit_of I ry h
    exact Z.ty _ _ I.kIn p
  · cases (show u = Value.ref b from ry)
    obtain ⟨sl', od', _, J', _⟩ := SlX.slt_inst I hb
    exact J'.type
def rCmpSl (K : PySem.W.Frag) (C : Addr) (sp : Sp) (E : XK) : R2 := fun x y H Q => ∃ a dx vs t, x = .ref a ∧ SlX.Slt H a C dx vs ∧ TyY K C y H t ∧ PySem.W.notFirst K C t = true ∧ sp [x, y] H Q E
theorem op_eqSl (hs : PySem.W.findIn X.K (.ref C) "__eq__" = some (some (.ref f))) (hf : PySem.W.isFn X.K (.ref f) = true) (F : FnR X.prog X.w X.K X.mg X.base CX n f sp) (hr : Room n X.A) (hx : Passes CX X E) :
    OpR X (compareOp .Eq) (rCmpSl X.K C sp E) := by
  intro pins s σ H x y v u Q I rx ry h
  obtain ⟨a, dx, vs, t, rfl, ha, hy, hn, q⟩ := h
  cases (show v = Value.ref a from rx)
  obtain ⟨sl, od, _, J, _⟩ := SlX.slt_inst I ha
  obtain ⟨m, hF⟩ := I.fr
  show wpAny (model X.prog X.w) X.A (richCompare .Eq (.ref a) u) (EP X pins σ Q) X.xe s
  refine PySem.W.cmp_K (op := .Eq) (tb := t) hr.units0 hF I.ok.mod.kin J (tyY_looks I ry hy) hn hs hf ?_
  refine wpAny_mono (wpAny_call (run_fnR (us := [.ref a, u]) (vs := [.ref a, y]) F hr hx I (.cons rfl (.cons ry .nil)) q)) (fun w s' z => ?_) fun _ _ x => x
  obtain ⟨z', H', I', rz, qz⟩ := z
  exact SlX.cmpback rz ⟨z', H', I', rz, qz⟩
end

/-! ### x != y by an own __eq__ (no own __ne__) -/
section
open PySem.W Builtin
variable {prog : Program} {w : World} {A : Around} {E : Value → Shared → Prop} {s : Shared} {K : PySem.W.Frag} {x C L f : Addr} {h0 : Heap} {m : Str → Option Value} {ox : Obj} {od : Option Obj} {b tb : Value}
theorem ne_K {Q : Value → Shared → Prop} (hu : A.units + 1 < cLine) (F : Fr h0 L s.heap m) (X0 : K.In h0) (I : InstAt s.heap x ox C od) (hb : Looks (model prog w) s.heap (typeOf b) tb) (hn : notFirst K C tb = true)
    (hne : findIn K (.ref C) "__ne__" = some (some (.builtin "object.__ne__"))) (hm : mroIn K C (.type "object") = some true) (hs : findIn K (.ref C) "__eq__" = some (some (.ref f))) (hf : isFn K (.ref f) = true)
    (h : wpAny (model prog w) A.in1 (call (.ref f) [.ref x, b]) (fun v s' => ∃ r, v = .bool r ∧ Q (.bool (!r)) s') E s) : wpAny (model prog w) A (richCompare .NotEq (.ref x) b) Q E s := by
  have X := X0.keeps F.keep
  have sub : Looks (model prog w) s.heap (isInstance (.ref x) (.type "object")) true := I.type.andThen (looks_mroIn X hm)
  have inner : wpAny (model prog w) A (call (.builtin "object.__ne__") [.ref x, b]) (fun v s' => ∃ r, v = .bool r ∧ Q (.bool r) s') E s := by
    refine wpAny_call (codeAny_call_builtin (by decide +kernel) PySem.F.cmpEntry_ne (@check_slot (model prog w) _ _ s "object.__ne__" "object" "__ne__" (.ref x) [b] [] _ PySem.F.cmpKind_ne PySem.F.cmpSplit_ne sub (PySem.F.cmpArgs_ne _ _) ?_))
    unfold Builtin.«object.__ne__»
    have hu1 : A.in1.units < cLine := hu
    repeat (first
      | with_reducible refine wpAny_cRoomFor hu1 ?_
      | (refine wpAny_bind (m := callSpecialIfBound? (.ref x) (Str.ofString "__eq__") [b])
          (ifBound_K X I hs hf (wpAny_mono h (fun r s' hr => by
            obtain ⟨c, rfl, hq⟩ := hr
            repeat (first | exact ⟨_, rfl, hq⟩ | exact wpAny_pure ⟨_, rfl, hq⟩ | exact wpAny_truthy_bool ⟨_, rfl, hq⟩ | (refine wpAny_bind (m := truthy (.bool _)) (wpAny_truthy_bool ?_)) | wp_step)) fun _ _ e => e)))
      | wp_step)
  have one : wpAny (model prog w) A (tryCompare (.ref x) "__ne__" b) (fun r s' => ∃ v, r = some v ∧ Q v s') E s := by
    unfold tryCompare
    refine wpAny_bind ?_
    simp only [callSpecialIfBound?, bindSpecialIfBound?]
    refine wpAny_holding (wpAny_bind (wpAny_bind (wpAny_bind (I.type.here ((looks_findIn X hne).here ?_)))))
    have bnd : ∀ self : Value, Looks (model prog w) s.heap (bindSpecial (.builtin "object.__ne__") self) (.builtin "object.__ne__", [self]) := fun self => Looks.of_pure (by kernel_rfl)
    have fin : wpAny (model prog w) A (call (.builtin "object.__ne__") ([.ref x] ++ [b]) >>= fun v => pure (some v)) (fun r s' => wpAny (model prog w) A (match r with | some .notImplemented => pure none | none => pure none | some v => pure (some v)) (fun r s' => ∃ v, r = some v ∧ Q v s') E s') E s := by
      refine wpAny_bind (wpAny_mono inner (fun v s' hv => ?_) fun _ _ h' => h')
      obtain ⟨r, rfl, hq⟩ := hv
      exact wpAny_pure (wpAny_pure ⟨_, rfl, hq⟩)
    refine wpAny_bind (wpAny_askSetting (wpAny_ite ?_))
    split
    · exact wpAny_bind ((bnd _).here (wpAny_pure fin))
    · exact wpAny_tryCatch (wpAny_bind ((bnd _).here (wpAny_pure fin)))
  unfold richCompare
  simp only [oneThing_ref]
  refine wpAny_holding (wpAny_bind (wpAny_cRoomFor (Nat.lt_of_succ_lt hu) ?_))
  refine wpAny_bind (I.type.here (wpAny_bind (hb.here ?_)))
  split
  · rename_i q
    have e : subIn K tb (.ref C) = some false := by
      rcases Bool.or_eq_true_iff.mp hn with e | e
      · rw [beq_iff_eq.mp e] at q; simp at q
      · exact beq_iff_eq.mp e
    refine wpAny_bind ((looks_subIn X e).here ?_)
    simp only [Bool.false_eq_true, if_false]
    refine wpAny_bind (wpAny_mono one (fun r s' z => ?_) fun _ _ e => e)
    obtain ⟨v, rfl, hq⟩ := z
    exact wpAny_pure hq
  · refine wpAny_bind (wpAny_pure ?_)
    simp only [Bool.false_eq_true, if_false]
    refine wpAny_bind (wpAny_mono one (fun r s' z => ?_) fun _ _ e => e)
    obtain ⟨v, rfl, hq⟩ := z
    exact wpAny_pure hq
end
section
variable {X : Cx} {CX : CXT} {C f : Addr} {n : Nat} {sp : Sp} {E : XK}
/-- x != y: what the own __eq__ says is turned -/
theorem op_neSl (hne : PySem.W.findIn X.K (.ref C) "__ne__" = some (some (.builtin "object.__ne__"))) (hm : PySem.W.mroIn X.K C (.type "object") = some true) (hs : PySem.W.findIn X.K (.ref C) "__eq__" = some (some (.ref f))) (hf : PySem.W.isFn X.K (.ref f) = true)
    (F : FnR X.prog X.w X.K X.mg X.base CX n f sp) (hr : Room (n + 1) X.A) (hx : Passes CX X E) :
    OpR X (compareOp .NotEq) (fun x y H Q => ∃ a dx vs t, x = .ref a ∧ SlX.Slt H a C dx vs ∧ TyY X.K C y H t ∧ PySem.W.notFirst X.K C t = true ∧ sp [x, y] H (fun z H' => ∃ r, z = .bl r ∧ Q (.bl (!r)) H') E) := by
  intro pins s σ H x y v u Q I rx ry h
  obtain ⟨a, dx, vs, t, rfl, ha, hy, hn, q⟩ := h
  cases (show v = Value.ref a from rx)
  obtain ⟨sl, od, _, J, _⟩ := SlX.slt_inst I ha
  obtain ⟨m, hF⟩ := I.fr
  show wpAny (model X.prog X.w) X.A (richCompare .NotEq (.ref a) u) (EP X pins σ Q) X.xe s
  refine ne_K (tb := t) (hu_of hr) hF I.ok.mod.kin J (tyY_looks I ry hy) hn hne hm hs hf ?_
  refine wpAny_mono (wpAny_call (SlX.run_at (us := [.ref a, u]) (ws := [.ref a, y]) F hr.in1 I.env0.in1 hx I (.cons rfl (.cons ry .nil)) q)) (fun w s' z => ?_) fun _ _ x => x
  obtain ⟨z', H', I', rz, r, rfl, qz⟩ := z
  cases (show w = Value.bool r from rz)
  exact ⟨r, rfl, .bl (!r), H', I', rfl, qz⟩
end
end Wl
set_option Elab.async false
set_option linter.all false
set_option maxRecDepth 100000
/-! Wl, part R: quotients in lowest terms, plain Lean. -/
namespace Wl
/-- below n bits -/
def Bd (n : Nat) (x : Int) : Prop := x.natAbs < 2 ^ n
theorem Bd.mono {m n : Nat} {x : Int} (h : Bd m x) (l : m ≤ n) : Bd n x := Nat.lt_of_lt_of_le h (Nat.pow_le_pow_right (by decide) l)
theorem Bd.mul {m n : Nat} {x y : Int} (a : Bd m x) (b : Bd n y) : Bd (m + n) (x * y) := L2.wide_lt a b
theorem Bd.add {n : Nat} {x y : Int} (a : Bd n x) (b : Bd n y) : Bd (n + 1) (x + y) := by
  unfold Bd at *
  have h := Int.natAbs_add_le x y
  rw [Nat.pow_succ]; omega
theorem Bd.neg {n : Nat} {x : Int} (a : Bd n x) : Bd n (-x) := by unfold Bd at *; rw [Int.natAbs_neg]; exact a
theorem Bd.sub {n : Nat} {x y : Int} (a : Bd n x) (b : Bd n y) : Bd (n + 1) (x - y) := by rw [Int.sub_eq_add_neg]; exact a.add b.neg
theorem Bd.le {n : Nat} {x y : Int} (a : Bd n y) (h : x.natAbs ≤ y.natAbs) : Bd n x := Nat.lt_of_le_of_lt h a
theorem Bd.one {n : Nat} (h : 0 < n) : Bd n 1 := by
  unfold Bd
  exact Nat.one_lt_two_pow (by omega)
theorem Bd.mulW {m n : Nat} {x y : Int} (a : Bd m x) (b : Bd n y) (h0 : 0 < m) (h1 : 0 < n) (h : m + n ≤ 1000000) : L2.CMulW x y := L2.wide_mul a b h0 h1 h

theorem fmod_natAbs_lt (a : Int) {b : Int} (h : b ≠ 0) : (a.fmod b).natAbs < b.natAbs := by
  rcases Int.lt_trichotomy b 0 with hb | hb | hb
  · have h0 : a.fmod b = -((-a).fmod (-b)) := by rw [Int.neg_fmod_neg, Int.neg_neg]
    have h1 := Int.fmod_nonneg_of_pos (-a) (show 0 < -b by omega)
    have h2 := Int.fmod_lt_of_pos (-a) (show 0 < -b by omega)
    omega
  · exact absurd hb h
  · have h1 := Int.fmod_nonneg_of_pos a hb
    have h2 := Int.fmod_lt_of_pos a hb
    omega
theorem gcd_fmod (a b : Int) : Int.gcd b (a.fmod b) = Int.gcd a b := by
  have h : a.fmod b = a + b * (-(a.fdiv b)) := by
    have := Int.fmod_add_mul_fdiv a b
    rw [Int.mul_neg]; omega
  rw [h, Int.gcd_add_mul_left_right, Int.gcd_comm]
/-- the common divisor with the sign of the bottom -/
def gsg (p q : Int) : Int := if 0 < q then (Int.gcd p q : Int) else -(Int.gcd p q : Int)
/-- in lowest terms, the bottom above 0 -/
def nrm (p q : Int) : Int × Int := (p.fdiv (gsg p q), q.fdiv (gsg p q))
def Low (p q : Int) : Prop := 0 < q ∧ Int.gcd p q = 1
theorem gsg_natAbs (p q : Int) : (gsg p q).natAbs = Int.gcd p q := by
  unfold gsg; split <;> omega
theorem gcd_pos {p q : Int} (h : q ≠ 0) : 0 < Int.gcd p q := Int.gcd_pos_of_ne_zero_right p h
theorem gsg_ne {p q : Int} (h : q ≠ 0) : gsg p q ≠ 0 := by
  have h1 := gsg_natAbs p q
  have h2 := gcd_pos (p := p) h
  omega
theorem gsg_le {p q : Int} (h : q ≠ 0) : (gsg p q).natAbs ≤ q.natAbs := by
  rw [gsg_natAbs]
  exact Nat.le_of_dvd (by omega) (Int.gcd_dvd_natAbs_right p q)
theorem gsg_dvd_left (p q : Int) : gsg p q ∣ p := by
  unfold gsg; split
  · exact Int.gcd_dvd_left _ _
  · exact Int.neg_dvd.mpr (Int.gcd_dvd_left _ _)
theorem gsg_dvd_right (p q : Int) : gsg p q ∣ q := by
  unfold gsg; split
  · exact Int.gcd_dvd_right _ _
  · exact Int.neg_dvd.mpr (Int.gcd_dvd_right _ _)
theorem nrm_top (p q : Int) : (nrm p q).1 * gsg p q = p := by
  show p.fdiv (gsg p q) * gsg p q = p
  rw [Int.fdiv_eq_ediv_of_dvd (gsg_dvd_left p q), Int.ediv_mul_cancel (gsg_dvd_left p q)]
theorem nrm_bot (p q : Int) : (nrm p q).2 * gsg p q = q := by
  show q.fdiv (gsg p q) * gsg p q = q
  rw [Int.fdiv_eq_ediv_of_dvd (gsg_dvd_right p q), Int.ediv_mul_cancel (gsg_dvd_right p q)]
theorem nrm_pos {p q : Int} (h : q ≠ 0) : 0 < (nrm p q).2 := by
  have e := nrm_bot p q
  have g := gcd_pos (p := p) h
  rcases Int.lt_trichotomy (nrm p q).2 0 with hb | hb | hb
  · exfalso
    by_cases hq : 0 < q
    · have hg : 0 < gsg p q := by unfold gsg; rw [if_pos hq]; omega
      have := Int.mul_neg_of_neg_of_pos hb hg
      omega
    · have hg : gsg p q < 0 := by unfold gsg; rw [if_neg hq]; omega
      have := Int.mul_pos_of_neg_of_neg hb hg
      omega
  · rw [hb, Int.zero_mul] at e; exact absurd e.symm h
  · exact hb
theorem nrm_gcd {p q : Int} (h : q ≠ 0) : Int.gcd (nrm p q).1 (nrm p q).2 = 1 := by
  show Int.gcd (p.fdiv (gsg p q)) (q.fdiv (gsg p q)) = 1
  rw [Int.fdiv_eq_ediv_of_dvd (gsg_dvd_left p q), Int.fdiv_eq_ediv_of_dvd (gsg_dvd_right p q), Int.gcd_ediv (gsg_dvd_left p q) (gsg_dvd_right p q), gsg_natAbs]
  exact Nat.div_self (gcd_pos h)
theorem nrm_low {p q : Int} (h : q ≠ 0) : Low (nrm p q).1 (nrm p q).2 := ⟨nrm_pos h, nrm_gcd h⟩
theorem nrm_of_low {p q : Int} (h : Low p q) : nrm p q = (p, q) := by
  have e : gsg p q = 1 := by unfold gsg; rw [if_pos h.1, h.2]; rfl
  unfold nrm
  rw [e, Int.fdiv_one, Int.fdiv_one]
theorem nrm_le1 {p q : Int} (h : q ≠ 0) : (nrm p q).1.natAbs ≤ p.natAbs := by
  have e := congrArg Int.natAbs (nrm_top p q)
  rw [Int.natAbs_mul] at e
  have g : 0 < (gsg p q).natAbs := by rw [gsg_natAbs]; exact gcd_pos h
  calc (nrm p q).1.natAbs = (nrm p q).1.natAbs * 1 := (Nat.mul_one _).symm
    _ ≤ (nrm p q).1.natAbs * (gsg p q).natAbs := Nat.mul_le_mul_left _ g
    _ = p.natAbs := e
theorem nrm_le2 {p q : Int} (h : q ≠ 0) : (nrm p q).2.natAbs ≤ q.natAbs := by
  have e := congrArg Int.natAbs (nrm_bot p q)
  rw [Int.natAbs_mul] at e
  have g : 0 < (gsg p q).natAbs := by rw [gsg_natAbs]; exact gcd_pos h
  calc (nrm p q).2.natAbs = (nrm p q).2.natAbs * 1 := (Nat.mul_one _).symm
    _ ≤ (nrm p q).2.natAbs * (gsg p q).natAbs := Nat.mul_le_mul_left _ g
    _ = q.natAbs := e
theorem low_one (p : Int) : Low p 1 := ⟨by decide, by rw [Int.gcd_one_right]⟩
theorem Low.ne {p q : Int} (h : Low p q) : q ≠ 0 := by have := h.1; omega
theorem low_nrm1 (p : Int) : nrm p 1 = (p, 1) := nrm_of_low (low_one p)
end Wl
set_option Elab.async false
set_option linter.all false
set_option maxRecDepth 100000
set_option maxHeartbeats 4000000
/-! Wl, part H: the head's facts: defs at any place (global, method, property's getter, classmethod), classes with slots, exceptions. -/
namespace Wl
open PySem PySem.Spec PyProof.Rows L2 He
/-! ### where a def stands -/
inductive Pl where
  | glo (x : Str)
  | met (C m : Str)
  | prp (C m : Str)
  | cme (C m : Str)
/-- the def within a record (a property, a classmethod) -/
def recFn (K : PySem.W.Frag) (p : Addr) (T : String) : Addr := match PySem.W.recIn K p T with
  | some (.ref g :: _) => g
  | _ => 0
def Pl.ad (K : PySem.W.Frag) : Pl → Addr
  | .glo x => ga K x
  | .met C m => ma K (ga K C) m
  | .prp C m => recFn K (ma K (ga K C) m) "property"
  | .cme C m => recFn K (ma K (ga K C) m) "classmethod"
structure DefY where
  at_ : Pl
  name : Str
  qual : Str
  params : Arguments
  body : List Stmt
  scope : Scope
  dfl : List Dv := []
def fnY (K : PySem.W.Frag) (a : Addr) : FnW := match K.lookup a with
  | some ⟨_, _, .func fd, _⟩ => some (fd.name, fd.qualname, fd.params, fd.body, fd.scope, fd.globals, fd.closure, fd.builtins)
  | _ => none
def DefY.val (d : DefY) : FnW := some (d.name, d.qual, d.params, .stmts d.body, d.scope, mainGlobals, [], builtinsNs)
def DefY.dvs (K : PySem.W.Frag) (d : DefY) : List V := d.dfl.map (Dv.v K)
def DefY.ok (K : PySem.W.Frag) (d : DefY) : Bool := PySem.W.keepIn K (.ref (d.at_.ad K)) && (match K.lookup (d.at_.ad K) with
  | some ⟨_, _, .func fd, _⟩ => PySem.W.codeIn K fd.code d.qual && dflB K fd.defaults (d.dvs K)
  | _ => false)
theorem DefY.funD {K : PySem.W.Frag} {d : DefY} (e : fnY K (d.at_.ad K) = d.val) (c : d.ok K = true) : ∃ fd, FunD K d.name d.qual d.params d.body d.scope (d.dvs K) [] (d.at_.ad K) fd := by
  obtain ⟨kp, c2⟩ := ba c
  unfold fnY at e
  cases q : K.lookup (d.at_.ad K) with
  | none =>
    rw [q] at c2
    cases c2
  | some o =>
    obtain ⟨oc, od, dt, osl⟩ := o
    rw [q] at c2 e
    cases dt with
    | func fd =>
      obtain ⟨n1, n2, n3, n4, n5, n6, n7, n8, n9, n10, n11, n12, n13, n14, n15⟩ := fd
      have e2 : (some (n1, n2, n3, n4, n5, n6, n7, n15) : FnW) = some (d.name, d.qual, d.params, .stmts d.body, d.scope, mainGlobals, [], builtinsNs) := e
      simp only [Option.some.injEq, Prod.mk.injEq] at e2
      obtain ⟨h1, h2, h3, h4, h5, h6, h7, h8⟩ := e2
      subst h1 h2 h3 h4 h5 h6 h7 h8
      have c3 : (PySem.W.codeIn K n13 d.qual && dflB K n8 (d.dvs K)) = true := c2
      obtain ⟨k1, k3⟩ := ba c3
      exact ⟨_, ⟨oc, od, n8, n9, n10, n11, n12, n13, n14, osl, rfl, q, k1, dflB_ok k3, .inl rfl⟩, kp⟩
    | _ => cases c2
/-! ### the Hook -/
def obsY (fa : List Fa) (fn : List DefY) (ex : PySem.W.Frag → Bool) (K : PySem.W.Frag) : AlD := ((fa.all fun f => f.ok K) && ((fn.all fun d => d.ok K) && ex K), fn.map fun d => fnY K (d.at_.ad K))
def valY (fn : List DefY) : AlD := (true, fn.map DefY.val)
def SaysY (fa : List Fa) (fn : List DefY) (ex : PySem.W.Frag → Bool) (K : PySem.W.Frag) : Prop := obsY fa fn ex K = valY fn
def obsYG (n : Nat) (fa : List Fa) (fn : List DefY) (ex : PySem.W.Frag → Bool) (g : Addr → Option Obj) : AlD := obsY fa fn ex (frG g (cStatics :: asD g n))
def hookY (n : Nat) (fa : List Fa) (fn : List DefY) (ex : PySem.W.Frag → Bool) : PySem.W.Hook where
  α := AlD
  obs := fun s => obsYG n fa fn ex s.heap.get?
  val := fun _ => valY fn
  says := fun _ h => ∃ K : PySem.W.Frag, K.In h ∧ SaysY fa fn ex K
  of := fun _ _ e => ⟨_, frG_in, e⟩
  keeps := fun _ _ _ ⟨K, hK, c⟩ k => ⟨K, PySem.W.Frag.In.keeps hK k, c⟩
theorem obsYG_eq {n : Nat} {fa : List Fa} {fn : List DefY} {ex : PySem.W.Frag → Bool} {g : Addr → Option Obj} {s : Shared} (h : ∀ a, g a = s.heap.get? a) : obsYG n fa fn ex g = (hookY n fa fn ex).obs s := by
  have e : g = s.heap.get? := funext h
  rw [e] <;> rfl
section
variable {fa : List Fa} {fn : List DefY} {ex : PySem.W.Frag → Bool} {K : PySem.W.Frag}
theorem SaysY.three (c : SaysY fa fn ex K) : (fa.all fun f => f.ok K) = true ∧ (fn.all fun d => d.ok K) = true ∧ ex K = true := by
  have c1 := ba (show ((fa.all fun f => f.ok K) && ((fn.all fun d => d.ok K) && ex K)) = true from congrArg (fun z : AlD => z.1) c)
  obtain ⟨h2, h3⟩ := ba c1.2
  exact ⟨c1.1, h2, h3⟩
theorem SaysY.fact (c : SaysY fa fn ex K) (i : Nat) {f : Fa} (h : fa[i]? = some f := by rfl) : f.ok K = true := List.all_eq_true.mp c.three.1 f (List.mem_of_getElem? h)
theorem SaysY.def_ (c : SaysY fa fn ex K) (i : Nat) {d : DefY} (h : fn[i]? = some d := by rfl) : ∃ fd, FunD K d.name d.qual d.params d.body d.scope (d.dvs K) [] (d.at_.ad K) fd := by
  have e : fn.map (fun d => fnY K (d.at_.ad K)) = fn.map DefY.val := congrArg (fun z : AlD => z.2) c
  have e2 : (fn.map fun d => fnY K (d.at_.ad K))[i]? = (fn.map DefY.val)[i]? := by rw [e]
  rw [List.getElem?_map, List.getElem?_map, h] at e2
  exact DefY.funD (Option.some.inj e2) (List.all_eq_true.mp c.three.2.1 d (List.mem_of_getElem? h))
end
/-! ### all that the walks lean on -/
structure TY (fa : List Fa) (fn : List DefY) (ex : PySem.W.Frag → Bool) (K : PySem.W.Frag) (mg : Str → Option Value) : Prop where
  c : SaysY fa fn ex K
  glo : ∀ (i : Nat) (x : Str), fa[i]? = some (.glo x) → mg x = some (.ref (ga K x))
  fre : ∀ (i : Nat) (x : Str), fa[i]? = some (.free x) → mg x = none
  cin : ∀ (i : Nat) (x : Str) (z : Int), fa[i]? = some (.int x z) → ∃ t, mg x = some (.int z t)
  cst : ∀ (i : Nat) (x z : Str), fa[i]? = some (.str x z) → ∃ t, mg x = some (.str z t)
theorem ty_mk {fa : List Fa} {fn : List DefY} {ex : PySem.W.Frag → Bool} {K : PySem.W.Frag} {h : Heap} {mg : Str → Option Value} (X : K.In h) (G : h.Ns mainGlobals mg) (c : SaysY fa fn ex K) : TY fa fn ex K mg :=
  ⟨c, fun i x e => glo_ok X G (c.fact i e), fun i x e => free_ok X G (c.fact i e), fun i x z e => int_ok X G (c.fact i e), fun i x z e => str_ok X G (c.fact i e)⟩
section
variable {fa : List Fa} {fn : List DefY} {ex : PySem.W.Frag → Bool} {K : PySem.W.Frag} {mg : Str → Option Value}
theorem TY.g (T : TY fa fn ex K mg) (i : Nat) {x : Str} (h : fa[i]? = some (.glo x) := by rfl) : mg x = some (.ref (ga K x)) := T.glo i x h
theorem TY.f (T : TY fa fn ex K mg) (i : Nat) {x : Str} (h : fa[i]? = some (.free x) := by rfl) : mg x = none := T.fre i x h
theorem TY.d (T : TY fa fn ex K mg) (i : Nat) {d : DefY} (h : fn[i]? = some d := by rfl) : ∃ fd, FunD K d.name d.qual d.params d.body d.scope (d.dvs K) [] (d.at_.ad K) fd := T.c.def_ i h
theorem TY.k (T : TY fa fn ex K mg) (i : Nat) {d : DefY} (h : fn[i]? = some d := by rfl) : PySem.W.keepIn K (.ref (d.at_.ad K)) = true := by
  obtain ⟨fd, F⟩ := T.c.def_ i h
  exact F.kp
theorem TY.kg (T : TY fa fn ex K mg) (i : Nat) {x : Str} (h : fn[i]?.map DefY.at_ = some (.glo x) := by rfl) : PySem.W.keepIn K (.ref (ga K x)) = true := by
  cases e : fn[i]? with
  | none => rw [e] at h; cases h
  | some d =>
    rw [e] at h
    have h2 : d.at_ = .glo x := Option.some.inj h
    have h3 := T.k i e
    rw [h2] at h3
    exact h3
theorem TY.x (T : TY fa fn ex K mg) : ex K = true := T.c.three.2.2
end
section
variable {X : Cx} {fa : List Fa} {fn : List DefY} {ex : PySem.W.Frag → Bool}
theorem TY.cint (T : TY fa fn ex X.K X.mg) (i : Nat) {x : Str} {z : Int} {pos : Pos} (h : fa[i]? = some (.int x z) := by rfl) (hg : Gl X x := by rfl) (hd : (x == ("__debug__" : Str)) = false := by decide) : PE X (.Name x pos) (tC (.int z)) := by
  obtain ⟨t, e⟩ := T.cin i x z h
  exact pe_glob hg e ⟨t, rfl⟩ hd
theorem TY.cstr (T : TY fa fn ex X.K X.mg) (i : Nat) {x z : Str} {pos : Pos} (h : fa[i]? = some (.str x z) := by rfl) (hg : Gl X x := by rfl) (hd : (x == ("__debug__" : Str)) = false := by decide) : PE X (.Name x pos) (tC (.str z)) := by
  obtain ⟨t, e⟩ := T.cst i x z h
  exact pe_glob hg e ⟨t, rfl⟩ hd
end
/-! ### a def's promise -/
section
variable {P : Program} {w : World} {K : PySem.W.Frag} {mg : Str → Option Value} {base : Heap} {x qual : Str} {params : Arguments} {body : List Stmt} {scope : Scope} {f : Addr} {N ps : List Str} {k : Nat} {sp : Sp}
/-- the way in, by positional values; every parameter is given -/
theorem fnR_of (hF : ∃ fd, FunD K x qual params body scope [] [] f fd) (S : FnScope N ps scope) (len : ∀ vs H Q E, sp vs H Q E → vs.length = ps.length)
    (bnd : ∀ (kV doc pm : Value) (an : Option Addr) (cdv ct : Value) (us : List Value), us.length = ps.length → bindArgs (PySem.W.fnOf x qual params body scope .none kV doc pm an cdv ct) ⟨us, []⟩ = pure (ps.zip us))
    (hbody : ∀ (cdv : Value) (A : Around) (outer : List Env) (s : Shared) (H : Hp) (vs : List V) (Q : VK) (E : XK), Room k (A.deeper (envOfC qual scope s.heap.objs.size f cdv)) → sp vs H Q E →
      ∃ t, PSs (cxOf (L2.CX P w) P w K mg base N qual scope f cdv A outer s H E) body t ∧ t { nx := fun _ H' => Q .non H', rt := Q } (start N vs) H) : FnR P w K mg base (L2.CX P w) (k + 1) f sp := by
  obtain ⟨fd, F⟩ := hF
  exact ((F.ok S len hbody).raw (F.bindsN bnd) .nil).imp fun vs H Q E h => by rw [List.append_nil]; exact h
end
/-! ### classes with slots, read off K -/
def dB {α : Type} [DecidableEq α] (a b : α) : Bool := decide (a = b)
theorem dB_ok {α : Type} [DecidableEq α] {a b : α} (h : dB a b = true) : a = b := of_decide_eq_true h
def sclsB (K : PySem.W.Frag) (C : Addr) : Bool := PySem.W.plainGet K C Str.empty && (PySem.W.isClsIn K C && (PySem.W.plainOver K C && eqO (PySem.W.findIn K (.ref C) "__setattr__") (some (some (.builtin "object.__setattr__")))))
theorem sclsB_ok {K : PySem.W.Frag} {C : Addr} (h : sclsB K C = true) : SlX.SCls K C := by
  obtain ⟨h1, h⟩ := ba h
  obtain ⟨h2, h⟩ := ba h
  obtain ⟨h3, h4⟩ := ba h
  exact ⟨h1, h2, h3, eqO_ok h4⟩
def sisiB (K : PySem.W.Frag) (C : Addr) : Bool := eqO (PySem.W.findIn K (.ref C) "__class__") (some (some (.builtin "object.__class__"))) && (eqO (PySem.W.specialIn K (.builtin "object.__class__") "__get__") (some (some (.builtin "getset_descriptor.__get__"))) &&
  (dB (PySem.W.takesIn K (.builtin "object.__class__")) (some true) && dB (PySem.W.mroIn K C (.type "object")) (some true)))
theorem sisiB_ok {K : PySem.W.Frag} {C : Addr} (h : sisiB K C = true) : SlX.SIsi K C := by
  obtain ⟨h1, h⟩ := ba h
  obtain ⟨h2, h⟩ := ba h
  obtain ⟨h3, h4⟩ := ba h
  exact ⟨eqO_ok h1, eqO_ok h2, dB_ok h3, dB_ok h4⟩
def slotB (K : PySem.W.Frag) (C : Addr) (f : Str) (i : Nat) : Bool := eqO (PySem.W.findIn K (.ref C) f) (some (some (.ref (ma K C f)))) && (eqO (PySem.W.specialIn K (.ref (ma K C f)) "__get__") (some (some (.builtin "member_descriptor.__get__"))) &&
  (dB (PySem.W.takesIn K (.ref (ma K C f))) (some true) && (dB (PySem.W.typeIn K (.ref (ma K C f))) (some (.type "member_descriptor")) && dB (PySem.W.slotIn K (ma K C f) C) (some i))))
theorem slotB_ok {K : PySem.W.Frag} {C : Addr} {f : Str} {i : Nat} (h : slotB K C f i = true) (hi : i < 1000 := by decide) : SlX.Slot1 K C f (ma K C f) i := by
  obtain ⟨h1, h⟩ := ba h
  obtain ⟨h2, h⟩ := ba h
  obtain ⟨h3, h⟩ := ba h
  obtain ⟨h4, h5⟩ := ba h
  exact ⟨eqO_ok h1, eqO_ok h2, dB_ok h3, dB_ok h4, dB_ok h5, hi⟩
/-- a property, its getter within its record -/
structure PropSl (K : PySem.W.Frag) (C : Addr) (f : Str) (p g : Addr) : Prop where
  at_ : PySem.W.findIn K (.ref C) f = some (some (.ref p))
  get : PySem.W.specialIn K (.ref p) "__get__" = some (some (.builtin "property.__get__"))
  tk : PySem.W.takesIn K (.ref p) = some true
  rc : ∃ rest, PySem.W.recIn K p "property" = some (.ref g :: rest)
def propB (K : PySem.W.Frag) (C : Addr) (f : Str) : Bool := eqO (PySem.W.findIn K (.ref C) f) (some (some (.ref (ma K C f)))) && (eqO (PySem.W.specialIn K (.ref (ma K C f)) "__get__") (some (some (.builtin "property.__get__"))) &&
  (dB (PySem.W.takesIn K (.ref (ma K C f))) (some true) && (match PySem.W.recIn K (ma K C f) "property" with | some (.ref _ :: _) => true | _ => false)))
theorem propB_ok {K : PySem.W.Frag} {C : Addr} {f : Str} (h : propB K C f = true) : PropSl K C f (ma K C f) (recFn K (ma K C f) "property") := by
  obtain ⟨h1, h⟩ := ba h
  obtain ⟨h2, h⟩ := ba h
  obtain ⟨h3, h4⟩ := ba h
  refine ⟨eqO_ok h1, eqO_ok h2, dB_ok h3, ?_⟩
  unfold recFn
  split at h4
  · rename_i g rest e
    rw [e]
    exact ⟨rest, rfl⟩
  · cases h4
def methB (K : PySem.W.Frag) (C : Addr) (m : Str) : Bool := eqO (PySem.W.findIn K (.ref C) m) (some (some (.ref (ma K C m)))) && (PySem.W.isFn K (.ref (ma K C m)) && PySem.W.keepIn K (.ref (ma K C m)))
theorem methB_ok {K : PySem.W.Frag} {C : Addr} {m : Str} (h : methB K C m = true) : Meth K C m (ma K C m) := by
  obtain ⟨h1, h⟩ := ba h
  obtain ⟨h2, h3⟩ := ba h
  exact ⟨eqO_ok h1, h2, h3⟩
def mkB (K : PySem.W.Frag) (C : Addr) : Bool := PySem.W.makesIn K C && (eqO (PySem.W.findIn K (.ref C) "__init__") (some (some (.ref (ma K C "__init__")))) && (PySem.W.isFn K (.ref (ma K C "__init__")) && PySem.W.keepIn K (.ref C)))
theorem mkB_ok {K : PySem.W.Frag} {C : Addr} (h : mkB K C = true) : Mk K C (ma K C "__init__") := by
  obtain ⟨h1, h⟩ := ba h
  obtain ⟨h2, h⟩ := ba h
  obtain ⟨h3, h4⟩ := ba h
  exact ⟨h1, eqO_ok h2, h3, h4⟩
def ownOpB (K : PySem.W.Frag) (C : Addr) (nm : String) : Bool := PySem.W.selfFirst K C && (eqO (PySem.W.findIn K (.ref C) (PySem.dunder nm)) (some (some (.ref (ma K C (PySem.dunder nm))))) && (PySem.W.isFn K (.ref (ma K C (PySem.dunder nm))) &&
  (eqO (PySem.W.findIn K (.ref C) (dunderR nm)) (some none) && ((PySem.W.findIn K (.type "int") (PySem.dunder nm)).isSome && ((PySem.W.findIn K (.type "int") (dunderR nm)).isSome && dB (PySem.W.subIn K (.type "int") (.ref C)) (some false))))))
theorem ownOpB_ok {K : PySem.W.Frag} {C : Addr} {nm : String} (h : ownOpB K C nm = true) : OwnOp K C nm (ma K C (PySem.dunder nm)) := by
  obtain ⟨h1, h⟩ := ba h
  obtain ⟨h2, h⟩ := ba h
  obtain ⟨h3, h⟩ := ba h
  obtain ⟨h4, h⟩ := ba h
  obtain ⟨h5, h⟩ := ba h
  obtain ⟨h6, h7⟩ := ba h
  exact ⟨h1, eqO_ok h2, h3, eqO_ok h4, Option.isSome_iff_exists.mp h5, Option.isSome_iff_exists.mp h6, dB_ok h7⟩
end Wl
set_option Elab.async false
set_option linter.all false
set_option maxRecDepth 100000
set_option maxHeartbeats 4000000
/-! Wl, part E: the exceptions: an own base over ValueError, classes under it whose __init__ calls the base's. -/
namespace Wl
open PySem PySem.Spec PyProof.Rows L2 He
/-! ### the classes, read off K -/
def oexB0 (K : PySem.W.Frag) (C : Addr) : Bool := match K.lookup C with
  | some ⟨.type "type", _, .cls cd, sl⟩ => (match cd.mro, sl.toList with
    | .ref C' :: bm, [_, _, _, _, some (.builtin n), _] => C' == C && n == "ValueError.__new__" && !cd.hasDel && PySem.HandSPX.refsVE bm && cd.hasDict
    | _, _ => false)
  | _ => false
theorem oexB0_ok {K : PySem.W.Frag} {C : Addr} (q : oexB0 K C = true) : ∃ nm qn N bs bm sn sub ab col dd k0 k1 k2 k3 k5, K.lookup C = some (excClassObj nm qn C N bs bm true sn sub ab col dd k0 k1 k2 k3 k5 "ValueError.__new__") ∧ PySem.HandSPX.refsVE bm = true := by
  unfold oexB0 at q
  split at q
  · rename_i dd cd sl ho
    split at q
    · rename_i C' bm k0 k1 k2 k3 n k5 hm hs
      simp only [Bool.and_eq_true, beq_iff_eq, Bool.not_eq_true'] at q
      obtain ⟨⟨⟨⟨rfl, rfl⟩, hdel⟩, ht⟩, hd⟩ := q
      obtain ⟨nm, bs, mro, ns, qn, hd', sn, sub, ab, col, del⟩ := cd
      dsimp only at hm hdel hd
      subst hm hdel hd
      have hsl : sl = #[k0, k1, k2, k3, some (.builtin "ValueError.__new__"), k5] := by
        obtain ⟨l⟩ := sl
        simp only at hs
        rw [hs]
      subst hsl
      exact ⟨nm, qn, ns, bs, bm, sn, sub, ab, col, dd, k0, k1, k2, k3, k5, ho, ht⟩
    · cases q
  · cases q
def oexB (K : PySem.W.Frag) (C : Addr) : Bool := oexB0 K C && (eqO (PySem.W.findIn K (.ref C) "__setattr__") (some (some (.builtin "object.__setattr__"))) && (dB (PySem.W.subIn K (.ref C) (.type "BaseException")) (some true) && (dB (PySem.W.typeIn K (.ref C)) (some (.type "type")) && PySem.W.keepIn K (.ref C))))
theorem oexB_ok {K : PySem.W.Frag} {C : Addr} (h : oexB K C = true) : OexC K C := by
  obtain ⟨h1, h⟩ := ba h
  obtain ⟨h2, h⟩ := ba h
  obtain ⟨h3, h⟩ := ba h
  obtain ⟨h4, h5⟩ := ba h
  exact ⟨oexB0_ok h1, eqO_ok h2, dB_ok h3, dB_ok h4, h5⟩
/-- the own __init__ of a class -/
structure OwnInit (K : PySem.W.Frag) (C f : Addr) : Prop where
  at_ : PySem.W.findIn K (.ref C) "__init__" = some (some (.ref f))
  ty : PySem.W.typeIn K (.ref f) = some (.type "function")
def ownInitB (K : PySem.W.Frag) (C : Addr) : Bool := eqO (PySem.W.findIn K (.ref C) "__init__") (some (some (.ref (ma K C "__init__")))) && dB (PySem.W.typeIn K (.ref (ma K C "__init__"))) (some (.type "function"))
theorem ownInitB_ok {K : PySem.W.Frag} {C : Addr} (h : ownInitB K C = true) : OwnInit K C (ma K C "__init__") := by
  obtain ⟨h1, h2⟩ := ba h
  exact ⟨eqO_ok h1, dB_ok h2⟩
/-- B.__init__ is ValueError's -/
structure BaseInit (K : PySem.W.Frag) (B : Addr) : Prop where
  rd : PySem.W.readsIn K B (.type "type") = true
  ga : PySem.W.specialIn K (.ref B) "__getattribute__" = some (some (.builtin "type.__getattribute__"))
  at_ : PySem.W.findCls K (.ref B) (.type "type") "__init__" = some (.val (.builtin "ValueError.__init__"))
def isValB (o : Option PySem.W.CFound) (v : Value) : Bool := match o with
  | some (.val u) => decide (u = v)
  | _ => false
theorem isValB_ok {o : Option PySem.W.CFound} {v : Value} (h : isValB o v = true) : o = some (.val v) := by
  unfold isValB at h
  split at h
  · rw [of_decide_eq_true h]
  · cases h
def baseInitB (K : PySem.W.Frag) (B : Addr) : Bool := PySem.W.readsIn K B (.type "type") && (eqO (PySem.W.specialIn K (.ref B) "__getattribute__") (some (some (.builtin "type.__getattribute__"))) && isValB (PySem.W.findCls K (.ref B) (.type "type") "__init__") (.builtin "ValueError.__init__"))
theorem baseInitB_ok {K : PySem.W.Frag} {B : Addr} (h : baseInitB K B = true) : BaseInit K B := by
  obtain ⟨h1, h⟩ := ba h
  obtain ⟨h2, h3⟩ := ba h
  exact ⟨h1, eqO_ok h2, isValB_ok h3⟩
/-! ### B.__init__(self, ..) -/
section
variable {X : Cx} {e : Expr} {es : List Expr} {ta : TA} {x : Str} {B : Addr} {p1 p2 pos : Pos}
theorem pe_clsinit {pl : Sem Bool} (b : BaseInit X.K B) (hg : Gl X x) (hm : X.mg x = some (.ref B)) (ha : PA X (e :: es) ta)
    (hc : eval (.Call (.Attribute (.Name x p1) "__init__" p2) (e :: es) [] pos) X.env = (do
      let ov ← eval (.Name x p1) X.env
      standAt p2.atName
      let (f, first) ← holding [ov] (getMethod ov "__init__" pl)
      callWith pos f first (backTo pos (starEach (e :: es) X.env)) (backToKw pos (keywordEach [] X.env))) := by rfl)
    (hdb : (x == ("__debug__" : Str)) = false := by decide) (he : starEach (e :: es) X.env = (false, eval e X.env) :: starEach es X.env := by rfl) (hpl : (backTo pos (starEach es X.env)).any (·.1) = false := by rfl) :
    PE X (.Call (.Attribute (.Name x p1) "__init__" p2) (e :: es) [] pos) (tVeI X.K ta) := by
  refine ⟨fun pins s σ H Q I h => ?_⟩
  refine PySem.W.methodCall_KW (ld_glob I hg hm ?_ hdb) hc
  refine PySem.W.method_cls I.kIn b.ga (PySem.W.cls_value I.kIn b.rd b.at_ (by decide +kernel) ?_)
  show wpAny _ _ (callWith pos (Value.builtin "ValueError.__init__") [] (backTo pos (starEach (e :: es) X.env)) []) _ _ _
  refine PyProof.Rows.callWith_method1 (thn (ha.run pos pins _ σ H _ (I.tok _) h) fun us s1 ⟨vs, H1, I1, r1, a, C, ws, ev, hl, T, ea, q⟩ => ?_) he hpl
  subst ev
  cases r1 with
  | @cons _ u0 _ ur ra rw' =>
    obtain rfl : u0 = Value.ref a := ra
    have hlen : ur.length ≤ sizeLine := by
      rw [← Paired.length rw', sizeLine_eq]
      omega
    exact oinit_ok T I1 ea hlen fun s' J => ⟨.non, H1, J, rfl, q⟩
end
/-! ### C(..) of such a class, to be raised -/
section
variable {X : Cx} {e : Expr} {es : List Expr} {ta : TA} {p pos : Pos}
theorem mk_endN {pins : List (Addr × Obj)} {σ : L2.St} {H1 H2 : Hp} {Q : XK} {hp hp2 h2 : Heap} {g1 g2 : Array GenState} {d1 d2 : Drawn} {t1 t2 : Nat} {os1 os2 : OsState} {a C : Addr} (T : Raises X (.ref C)) (I1 : Inv X pins σ H1 ⟨hp, g1, d1, t1, os1⟩)
    (ha : hp.objs.size ≤ a) (k : ∀ b o, hp.get? b = some o → hp2.get? b = some o) (un : Un (frs X.stack) [] (upd H1 a (exo a C none)) H2 hp2 h2) (hok : HOk X.prog X.w H2 h2) (ho : os2 = os1) (hb : AllBare g2)
    (ea : H2 a = some (exo a C none)) (q : Q (.ref C) none (del H2 a)) : MkP X pins σ Q (.ref a) ⟨h2, g2, d2, t2, os2⟩ := by
  obtain ⟨t0, hoe⟩ := exo_at hok ea
  have hn : H1 a = none := I1.hok.fresh ha
  obtain ⟨G, g1', g2'⟩ := restrict h2 fun b => decide (b ≠ a)
  have gk : ∀ b, b ≠ a → G.get? b = h2.get? b := fun b hb => g1' b (decide_eq_true hb)
  have ge : G.get? a = none := g2' a (by simp)
  have nha : ∀ {b : Addr} {o : Obj}, hp.get? b = some o → b ≠ a := fun {b o} z => Nat.ne_of_lt (Nat.lt_of_lt_of_le (Heap.lt_size z) ha)
  have up : ∀ {b : Addr}, b ≠ a → H1 b = none → upd H1 a (exo a C none) b = none := fun {b} hb n => by rw [upd_ne hb]; exact n
  have U : Un (frs X.stack) [] H1 (del H2 a) hp G := {
    keep := fun b o z n hf hx => by
      rw [gk b (nha z)]
      exact un.keep b o (k b o z) (up (nha z) n) hf hx
    slot := fun b o z n hf hx => by
      rw [gk b (nha z)]
      exact un.slot b o (k b o z) (up (nha z) n) hf hx
    free := fun b o z n hx => by
      rw [del_ne (nha z)]
      exact un.free b o (k b o z) (up (nha z) n) hx
    there := fun b o z hx => by
      rw [gk b (nha z)]
      exact un.there b o (k b o z) hx
    tups := fun b xs z => by
      rw [del_ne (ne_of_none z hn)]
      exact un.tups b xs (by rw [upd_ne (ne_of_none z hn)]; exact z)
    frzs := fun b o v z => by
      rw [del_ne (ne_of_none z hn)]
      exact un.frzs b o v (by rw [upd_ne (ne_of_none z hn)]; exact z)
    tbls := fun b ps z => by
      rw [del_ne (ne_of_none z hn)]
      exact un.tbls b ps (by rw [upd_ne (ne_of_none z hn)]; exact z) }
  have hok3 : HOk X.prog X.w (del H2 a) G := fun b o z => by
    have hba : b ≠ a := fun e => by
      rw [e, del_same] at z
      cases z
    rw [del_ne hba] at z
    have noa : ∀ {c : Addr}, H2 c = some (.own b) → c ≠ a := fun {c} hc => at_ne ea hc exo_own
    exact (hok b o z).stay (fun c v hc y => by
        have hca : c ≠ a := by
          rcases hc with hc | hc
          · rw [hc]
            exact hba
          · exact noa hc
        rw [gk c hca]
        exact y)
      (fun c hc => by rw [del_ne (noa hc)]; exact hc) (fun c xs hc => by rw [del_ne (at_ne ea hc exo_tup)]; exact hc)
  have J : Inv X pins σ (del H2 a) ⟨G, g2, d2, t2, os2⟩ := I1.call' (ch := []) ho U hok3 hb (fun b z => absurd z (by simp))
  have kG : ∀ b o, G.get? b = some o → h2.get? b = some o := fun b o z => by
    by_cases hba : b = a
    · rw [hba, ge] at z
      cases z
    · exact (gk b hba).symm.trans z
  exact ⟨a, _, _, ⟨G, g2, d2, t2, os2⟩, _, .ref C, none, rfl, J, kG, ge, hoe, ⟨rfl, rfl⟩, rfl, rfl, del_same, rfl, hb, T, q⟩
/-- what is asked of the new exception at a, its class's __init__ done: with a dict, or none -/
def MkEnd (C a : Addr) (H1 : Hp) (Q : XK) : VK := fun v H2 => v = .non ∧ ((∃ (d : Addr) (fs : List (Str × V)), H2 a = some (exo a C (some d)) ∧ H2 d = some (exd d fs) ∧ H1 d = none ∧ Q (.ref C) (some d) (upd (del H2 a) d (.xd fs))) ∨ (H2 a = some (exo a C none) ∧ Q (.ref C) none (del H2 a)))
def tMkE (C : Addr) (sp : Sp) (ta : TA) : L2.St → Hp → XK → Prop := fun σ H Q => ta σ H fun vs H1 => vs.length ≤ 1000 ∧ ∀ a, H1 a = none → sp (.ref a :: vs) (upd H1 a (exo a C none)) (MkEnd C a H1 Q) E0
theorem run_mkE {CX : CXT} {C fI : Addr} {k : Nat} {sp : Sp} {pins : List (Addr × Obj)} {σ : L2.St} {H1 : Hp} {s1 : Shared} {Q : XK} {vs : List V} {us : List Value} (T : OexC X.K C) (O : OwnInit X.K C fI) (F1 : FnR X.prog X.w X.K X.mg X.base CX k fI sp) (hr : Room (k + 1) X.A) (hx : Passes CX X E0)
    (I1 : Inv X pins σ H1 s1) (r1 : Vals vs us) (hz : vs.length ≤ 1000) (q1 : ∀ a, H1 a = none → sp (.ref a :: vs) (upd H1 a (exo a C none)) (MkEnd C a H1 Q) E0) : wpAny (model X.prog X.w) X.A (call (.ref C) us) (MkP X pins σ Q) X.xe s1 := by
  obtain ⟨nm, q, N, bs, bm, sn, sub, ab, col, dd, k0, k1, k2, k3, k5, hC, hbm⟩ := T.cls
  obtain ⟨hp, g, dr, tk, os⟩ := s1
  have hsz : hp.objs.size ≤ hp.objs.size + 1 := Nat.le_succ _
  have hn : H1 (hp.objs.size + 1) = none := I1.hok.fresh hsz
  have hq := q1 (hp.objs.size + 1) hn
  have kk : ∀ b o, hp.get? b = some o → ((hp.push (PySem.W.kdv_tup us)).push (PySem.HandSPX.excO C hp.objs.size)).get? b = some o := fun b o e => Heap.get?_push_of_some _ (Heap.get?_push_of_some _ e)
  have hget : ((hp.push (PySem.W.kdv_tup us)).push (PySem.HandSPX.excO C hp.objs.size)).get? (hp.objs.size + 1) = some (PySem.HandSPX.excO C hp.objs.size) := by heap_get
  have I2 : Inv X pins σ (upd H1 (hp.objs.size + 1) (exo (hp.objs.size + 1) C none)) ⟨(hp.push (PySem.W.kdv_tup us)).push (PySem.HandSPX.excO C hp.objs.size), g, dr, tk, os⟩ :=
    I1.laid (t' := tk) (a := hp.objs.size + 1) (o := exo (hp.objs.size + 1) C none) (h' := (hp.push (PySem.W.kdv_tup us)).push (PySem.HandSPX.excO C hp.objs.size)) kk hsz (exo_ok hget)
  have r2 : Vals (V.ref (hp.objs.size + 1) :: vs) (Value.ref (hp.objs.size + 1) :: us) := .cons rfl r1
  have hus : us.length ≤ sizeLine := by
    rw [← Paired.length r1, sizeLine_eq]
    omega
  refine wpAny_call (PySem.HandSPX.call_own F.excBase_ValueError (fun Y => PySem.HandSPX.refsVE_contains Y bm hbm) (I1.kIn _ _ hC) (PySem.W.looks_findIn I1.kIn O.at_) (fun self => PySem.W.bind_fn I1.kIn self O.ty) hus
    (codeAny_mono (F1 _ X.stack _ _ (Value.ref (hp.objs.size + 1) :: us) (V.ref (hp.objs.size + 1) :: vs) _ E0 (hr.make C us []) (I2.env0.make C us []) r2 hq) fun r s' hq' => ?_))
  cases r with
  | error er => exact hx pins σ _ _ er s' I2 hq'
  | ok fl =>
    cases fl with
    | ret u =>
      obtain ⟨v, H2, os2, bare2, un2, hok2, rv, ev, q2⟩ := hq'
      subst ev
      obtain ⟨h2, g2, d2, t2, os'⟩ := s'
      rcases q2 with ⟨d, fs, ea, ed, hd1, q2⟩ | ⟨ea, q2⟩
      · exact ⟨rv, mk_end (raises_own T.exC T.tyC) I1 hsz kk un2 hok2 os2 bare2 ea ed hd1 q2⟩
      · exact ⟨rv, mk_endN (raises_own T.exC T.tyC) I1 hsz kk un2 hok2 os2 bare2 ea q2⟩
    | next => exact False.elim hq'
    | brk => exact False.elim hq'
    | cont => exact False.elim hq'
theorem pmk_exc {CX : CXT} {x : Str} {C fI : Addr} {k : Nat} {sp : Sp} (T : OexC X.K C) (O : OwnInit X.K C fI) (F1 : FnR X.prog X.w X.K X.mg X.base CX k fI sp) (hr : Room (k + 1) X.A) (hx : Passes CX X E0) (hg : Gl X x) (hm : X.mg x = some (.ref C)) (ha : PA X (e :: es) ta)
    (hdb : (x == ("__debug__" : Str)) = false := by decide) (he : starEach (e :: es) X.env = (false, eval e X.env) :: starEach es X.env := by rfl) (hpl : (backTo pos (starEach es X.env)).any (·.1) = false := by rfl) :
    PMk X (.Call (.Name x p) (e :: es) [] pos) (tMkE C sp ta) := by
  intro pins s σ H Q I h
  refine wpAny_Call_Name_kw (ld_glob I hg hm ?_ hdb)
  refine PySem.W.callWith_K (h₀ := X.base) I.ok.mod.kin T.kC (thn (ha.run pos pins s σ H _ I h) fun us s1 ⟨vs, H1, I1, r1, hz, q1⟩ => ⟨I1.kIn, ?_⟩) he hpl
  exact run_mkE T O F1 hr hx I1 r1 hz q1
theorem pmk_exc0 {CX : CXT} {x : Str} {C fI : Addr} {k : Nat} {sp : Sp} (T : OexC X.K C) (O : OwnInit X.K C fI) (F1 : FnR X.prog X.w X.K X.mg X.base CX k fI sp) (hr : Room (k + 1) X.A) (hx : Passes CX X E0) (hg : Gl X x) (hm : X.mg x = some (.ref C))
    (hdb : (x == ("__debug__" : Str)) = false := by decide) : PMk X (.Call (.Name x p) [] [] pos) (tMkE C sp tNil) := by
  intro pins s σ H Q I h
  refine wpAny_Call_Name_kw (ld_glob I hg hm ?_ hdb)
  obtain ⟨hz, q1⟩ := h
  exact PySem.W.callWith_K0 I.kIn T.kC (run_mkE T O F1 hr hx I .nil hz q1)
end
/-! ### promises of the __init__s -/
/-- of a class with one field f -/
def spExc1 (C : Addr) (f : Str) : Sp := fun vs H Q _ => ∃ (a : Addr) (v : V), vs = [.ref a, v] ∧ H a = some (exo a C none) ∧ ∀ d, H d = none → d ≠ a → Q .non (upd (upd H d (exd d [(f, v)])) a (exo a C (some d)))
/-- of a class without a field -/
def spExc0 (C : Addr) : Sp := fun vs H Q _ => ∃ (a : Addr), vs = [.ref a] ∧ H a = some (exo a C none) ∧ Q .non H
/-- the reading of raise C(v) -/
theorem rd_exc1 {C : Addr} {f : Str} {H1 : Hp} {Q : XK} {v : V} (k : ∀ d H', Same H1 H' → H1 d = none → H' d = some (.xd [(f, v)]) → Q (.ref C) (some d) H') : ∀ a, H1 a = none → spExc1 C f (.ref a :: [v]) (upd H1 a (exo a C none)) (MkEnd C a H1 Q) E0 := by
  intro a ha
  refine ⟨a, v, rfl, upd_same, fun d hd hda => ⟨rfl, .inl ⟨d, _, upd_same, by rw [upd_ne hda, upd_same], ?_, ?_⟩⟩⟩
  · rw [upd_ne hda] at hd; exact hd
  · have hd1 : H1 d = none := by rw [upd_ne hda] at hd; exact hd
    refine k d _ (fun b o e => ?_) hd1 upd_same
    have hb : b ≠ a := ne_of_none e ha
    have hbd : b ≠ d := ne_of_none e hd1
    rw [upd_ne hbd, del_ne hb, upd_ne hb, upd_ne hbd, upd_ne hb]
    exact e
theorem rd_exc0 {C : Addr} {H1 : Hp} {Q : XK} (k : ∀ H', Same H1 H' → Q (.ref C) none H') : ∀ a, H1 a = none → spExc0 C (.ref a :: []) (upd H1 a (exo a C none)) (MkEnd C a H1 Q) E0 := by
  intro a ha
  refine ⟨a, rfl, upd_same, rfl, .inr ⟨upd_same, k _ fun b o e => ?_⟩⟩
  have hb : b ≠ a := ne_of_none e ha
  rw [del_ne hb, upd_ne hb]
  exact e
end Wl
set_option Elab.async false
set_option linter.all false
set_option maxRecDepth 100000
set_option maxHeartbeats 4000000
/-! Wl, part B: isinstance beside a class with slots, repr of truths, properties, keywords; data that stays. -/
namespace Wl
open PySem PySem.Spec PyProof.Rows L2 He
section
variable {X : Cx} {R : Addr} {pins : List (Addr × Obj)} {σ : L2.St} {H : Hp} {s : Shared}
theorem kit_Y (cl : SlX.SCls X.K R) (isi : SlX.SIsi X.K R) {y : V} {u t : Value} (I : Inv X pins σ H s) (ry : RelV y u) (h : TyY X.K R y H t) : ∃ P : Heap → Prop, PySem.W.KitX X.K u t P ∧ P s.heap ∧ u ≠ .builtin "__main__.__loader__#opaque" := by
  rcases h with h | ⟨rfl, b, dy, ws, rfl, hb⟩
  · exact kit_of I ry h
  · cases (show u = Value.ref b from ry)
    obtain ⟨sl', od', _, J', _⟩ := SlX.slt_inst I hb
    exact ⟨_, OwX.kitx_slt cl.ic (cl.get _) isi.ca isi.cn isi.ct isi.cm, J', fun z => nomatch z⟩
/-- isinstance(x, c), x any value that is met -/
def rIsiY (K : PySem.W.Frag) (R : Addr) : List V → Hp → VK → Prop := fun xs H Q => ∃ (x c : V) (t u : Value) (b : Bool), xs = [x, c] ∧ ClsV c u ∧ TyY K R x H t ∧ PySem.W.kitOne K t u = some b ∧ Q (.bl b) H
theorem call_isiY (cl : SlX.SCls X.K R) (isi : SlX.SIsi X.K R) : CallR X (.builtin "isinstance") (rIsiY X.K R) := by
  intro pins s σ H xs us Q I r h
  obtain ⟨x, c, t, u, b, rfl, k, ty, e, q⟩ := h
  obtain ⟨u1, u2, rfl, r1, r2⟩ := vals2 r
  have e2 := k.eq r2
  subst e2
  obtain ⟨P, Z, p, hx⟩ := kit_Y cl isi I r1 ty
  exact PySem.W.kia_one Z I.kIn p e hx fun tk => ⟨.bl b, H, I.tok tk, rfl, q⟩
/-- isinstance(x, (c1, c2, ..)), the tuple just laid -/
def rIsiTY (K : PySem.W.Frag) (R : Addr) : List V → Hp → VK → Prop := fun xs H Q => ∃ (x : V) (tp : Addr) (cs : List V) (t : Value) (us : List Value) (b : Bool), xs = [x, .ref tp] ∧ H tp = some (.tup cs) ∧ Paired ClsV cs us ∧ TyY K R x H t ∧ PySem.W.kitAny K t us = some b ∧ Q (.bl b) H
theorem call_isiTY (cl : SlX.SCls X.K R) (isi : SlX.SIsi X.K R) : CallR X (.builtin "isinstance") (rIsiTY X.K R) := by
  intro pins s σ H xs us Q I r h
  obtain ⟨x, tp, cs, t, ws, b, rfl, hT, k, ty, e, q⟩ := h
  obtain ⟨u1, u2, rfl, r1, r2⟩ := vals2 r
  cases (show u2 = Value.ref tp from r2)
  obtain ⟨P, Z, p, hx⟩ := kit_Y cl isi I r1 ty
  obtain ⟨_, its, rv, o, h1, h2, n, h3⟩ := (show ObjOk X.prog X.w H s.heap tp (.tup cs) from I.hok tp _ hT)
  have e3 := ClsV.all k rv
  subst e3
  obtain ⟨oc, od, dt, sl⟩ := o
  simp only at h2 h3
  subst h2 h3
  exact PySem.W.kia_tup Z I.kIn p h1 e hx fun tk => ⟨.bl b, H, I.tok tk, rfl, q⟩
theorem call_reprB : CallR X (.builtin "repr") (fun xs H Q => ∃ b, xs = [.bl b] ∧ Q (.str (if b then "True" else "False")) H) := by
  intro pins s σ H xs us Q I r h
  obtain ⟨b, rfl, q⟩ := h
  obtain ⟨u, rfl, r1⟩ := vals1 r
  cases (show u = Value.bool b from r1)
  exact PySem.P.repr_of_bool ⟨.str _, H, I.tok _, ⟨_, rfl⟩, q⟩
end
/-! ### what stays when the heap grows -/
theorem slt_same {H H' : Hp} {a C dx : Addr} {vs : List (Option V)} (s : Same H H') (h : SlX.Slt H a C dx vs) : SlX.Slt H' a C dx vs := by
  rcases h with ⟨h1, h2⟩ | ⟨h1, h2⟩
  · exact .inl ⟨s _ _ h1, h2⟩
  · exact .inr ⟨s _ _ h1, s _ _ h2⟩
theorem tyOf_same {K : PySem.W.Frag} {H H' : Hp} {v : V} {t : Value} (s : Same H H') (h : TyOf K H v t) : TyOf K H' v t := by
  cases h with
  | non => exact .non
  | bl x => exact .bl x
  | int i => exact .int i
  | str x => exact .str x
  | flt x => exact .flt x
  | lst e => exact .lst (s _ _ e)
  | frz e => exact .frz (s _ _ e)
  | tup e => exact .tup (s _ _ e)
  | dK e => exact .dK (s _ _ e)
  | dT e => exact .dT (s _ _ e)
  | ins e cl ha hn htk hm => exact .ins (s _ _ e) cl ha hn htk hm
theorem tyX_same {K : PySem.W.Frag} {H H' : Hp} {v : V} {t : Value} (s : Same H H') (h : TyX K H v t) : TyX K H' v t := by
  cases h with
  | base h => exact .base (tyOf_same s h)
  | byt b => exact .byt b
  | set e => exact .set (s _ _ e)
  | kList e c => exact .kList e c
  | kTuple e c => exact .kTuple e c
  | kDict e c => exact .kDict e c
  | fTuple e => exact .fTuple (s _ _ e)
  | fDict e => exact .fDict (s _ _ e)
theorem tyY_same {K : PySem.W.Frag} {R : Addr} {H H' : Hp} {v : V} {t : Value} (s : Same H H') (h : TyY K R v H t) : TyY K R v H' t := by
  rcases h with h | ⟨rfl, b, dy, ws, rfl, hb⟩
  · exact .inl (tyX_same s h)
  · exact .inr ⟨rfl, b, dy, ws, rfl, slt_same s hb⟩
theorem sqT_same {K : PySem.W.Frag} {H H' : Hp} {a : Addr} {xs : List V} (e : Same H H') (h : SqT K H a xs) : SqT K H' a xs := by
  rcases h with (h | ⟨o, h⟩) | h
  · exact .inl (.inl (e _ _ h))
  · exact .inl (.inr ⟨o, e _ _ h⟩)
  · exact .inr h
mutual
theorem dp_same {K : PySem.W.Frag} {H H' : Hp} (s : Same H H') : ∀ {v : V} {d : PyData}, Dp K H v d → Dp K H' v d
  | _, _, .non => .non
  | _, _, .bl b => .bl b
  | _, _, .int i => .int i
  | _, _, .str x => .str x
  | _, _, .lst h a => .lst (s.seq h) (dpAll_same s a)
  | _, _, .tup h a => .tup (sqT_same s h) (dpAll_same s a)
theorem dpAll_same {K : PySem.W.Frag} {H H' : Hp} (s : Same H H') : ∀ {vs : List V} {ds : List PyData}, DpAll K H vs ds → DpAll K H' vs ds
  | _, _, .nil => .nil
  | _, _, .cons h a => .cons (dp_same s h) (dpAll_same s a)
end
/-! ### a property's getter; C(..) by a positional promise; iteration over a list or a tuple -/
theorem cx_never {P : Program} {w : World} {outer : List Env} {H : Hp} {s : Shared} {e : Value} {s' : Shared} (h : L2.CX P w outer H s E0 e s') : False := by
  obtain ⟨_, _, _, _, _, _, _, _, _, _, _, _, z⟩ := h
  exact z
section
variable {X : Cx} {CX : CXT} {k n : Nat} {f C p g : Addr} {sp : Sp} {E : XK} {x : Str} {pp pos : Pos} {e l : Expr} {es : List Expr} {ta tl : TE} {t : TA} {fn : Str} {tg : Expr}
theorem pe_prp (c : SlX.SCls X.K C) (hp : PropSl X.K C fn p g) (F : FnR X.prog X.w X.K X.mg X.base (L2.CX X.prog X.w) n g sp) (hr : Room (n + 1) X.A) (he : PE X e ta)
    (hb : attributeBase e fn X.env (eval e X.env) = eval e X.env := by rfl) : PE X (.Attribute e fn pos) (SlX.tPropSl C sp E0 ta) :=
  SlX.pe_propSl he c hp.at_ hp.get hp.tk hp.rc F hr (fun _ _ _ _ h => cx_never h) hb
def tMakeR (C : Addr) (sp : Sp) (E : XK) (t : TA) : TE := fun σ H Q => t σ H fun vs H1 => ∀ x dx, H1 x = none → H1 dx = none → dx ≠ x →
  sp (.ref x :: vs) (upd (upd H1 dx (.own x)) x (.ins C dx [])) (fun v H2 => v = .non ∧ Q (.ref x) H2) E
theorem run_makeR {pins : List (Addr × Obj)} {σ : L2.St} {H : Hp} {s : Shared} {Q : VK} {us : List Value} {vs : List V} (M : Mk X.K C f) (F : FnR X.prog X.w X.K X.mg X.base CX k f sp) (hr : Room (k + 1) X.A)
    (hx : Passes CX X E) (I : Inv X pins σ H s) (r : Vals vs us)
    (h : ∀ x dx, H x = none → H dx = none → dx ≠ x → sp (.ref x :: vs) (upd (upd H dx (.own x)) x (.ins C dx [])) (fun v H2 => v = .non ∧ Q (.ref x) H2) E) :
    wpAny (model X.prog X.w) X.A (call (.ref C) us) (EP X pins σ Q) X.xe s := by
  have hq := h (s.heap.objs.size + 1) s.heap.objs.size (I.hok.fresh (Nat.le_succ _)) (I.hok.fresh (Nat.le_refl _)) (Nat.ne_of_lt (Nat.lt_succ_self _))
  have I2 := Inv.made (C := C) I
  have r2 : Vals (V.ref (s.heap.objs.size + 1) :: vs) (Value.ref (s.heap.objs.size + 1) :: us) := .cons rfl r
  refine wpAny_call (make_map (f := f) I.kIn M.makes M.init (beq_iff_eq.mp M.fn) (codeAny_mono (F _ X.stack _ _ (Value.ref (s.heap.objs.size + 1) :: us) (V.ref (s.heap.objs.size + 1) :: vs) _ E (hr.make C us [])
    (I2.env0.make C us []) r2 hq) fun r s' hq' => ?_))
  cases r with
  | error e => exact hx pins σ _ _ e s' I2 hq'
  | ok fl =>
    cases fl with
    | ret u =>
      obtain ⟨v, H', I3, rv, ev, q3⟩ := I2.after hq'
      subst ev
      exact ⟨rv, ⟨V.ref (s.heap.objs.size + 1), H', I3, rfl, q3⟩⟩
    | next => exact False.elim hq'
    | brk => exact False.elim hq'
    | cont => exact False.elim hq'
theorem pe_makeR (M : Mk X.K C f) (F : FnR X.prog X.w X.K X.mg X.base CX k f sp) (hr : Room (k + 1) X.A) (hg : Gl X x) (hm : X.mg x = some (.ref C)) (hx : Passes CX X E)
    (ha : PA X (e :: es) t) (hdb : (x == ("__debug__" : Str)) = false := by decide) (he : starEach (e :: es) X.env = (false, eval e X.env) :: starEach es X.env := by rfl) (hpl : (backTo pos (starEach es X.env)).any (·.1) = false := by rfl) :
    PE X (.Call (.Name x pp) (e :: es) [] pos) (tMakeR C sp E t) := by
  refine ⟨fun pins s σ H Q I h => ?_⟩
  refine wpAny_Call_Name_kw (ld_glob I hg hm ?_ hdb)
  refine PySem.W.callWith_K (h₀ := X.base) I.ok.mod.kin M.kp (thn (ha.run pos pins s σ H _ I h) fun us s1 ⟨vs, H1, I1, r, q⟩ => ⟨I1.kIn, ?_⟩) he hpl
  exact run_makeR M F hr hx I1 r q
/-- C(e, ..), told by what is asked of the values -/
theorem pe_makeS {S : List V → Hp → VK → XK → Prop} (M : Mk X.K C f) (F : FnR X.prog X.w X.K X.mg X.base CX k f sp) (hr : Room (k + 1) X.A) (hg : Gl X x) (hm : X.mg x = some (.ref C)) (hx : Passes CX X E)
    (hS : ∀ vs H Q, S vs H Q E → ∀ x dx, H x = none → H dx = none → dx ≠ x → sp (.ref x :: vs) (upd (upd H dx (.own x)) x (.ins C dx [])) (fun v H2 => v = .non ∧ Q (.ref x) H2) E)
    (ha : PA X (e :: es) t) (hdb : (x == ("__debug__" : Str)) = false := by decide) (he : starEach (e :: es) X.env = (false, eval e X.env) :: starEach es X.env := by rfl) (hpl : (backTo pos (starEach es X.env)).any (·.1) = false := by rfl) :
    PE X (.Call (.Name x pp) (e :: es) [] pos) (tCallR S E t) := by
  refine ⟨fun pins s σ H Q I h => ?_⟩
  refine wpAny_Call_Name_kw (ld_glob I hg hm ?_ hdb)
  refine PySem.W.callWith_K (h₀ := X.base) I.ok.mod.kin M.kp (thn (ha.run pos pins s σ H _ I h) fun us s1 ⟨vs, H1, I1, r, q⟩ => ⟨I1.kIn, ?_⟩) he hpl
  exact run_makeR M F hr hx I1 r (hS _ _ _ q)
/-- what is walked is a list or a tuple -/
structure iSeq (K : PySem.W.Frag) (tl : TE) (σ : L2.St) (H : Hp) (R : It → Hp → Prop) : Prop where
  h : tl σ H fun x H1 => ∃ a, x = .ref a ∧ ((∃ xs, SqL K H1 a xs ∧ R (Itl K a) H1) ∨ ∃ xs, SqT K H1 a xs ∧ R (Itt K a) H1)
theorem pi_seq (hl : PE X l tl) : PI X tg l (iSeq X.K tl) := by
  refine ⟨fun pins s σ H R I ⟨h⟩ => ?_⟩
  refine thn (hl.run pins s σ H _ I h) fun v s1 ⟨x, H1, I1, r1, q1⟩ => ?_
  obtain ⟨a, e, q⟩ := q1
  subst e
  cases r1
  rcases q with ⟨xs, hq, q⟩ | ⟨xs, hq, q⟩
  · obtain ⟨its, rv, p, hz⟩ := I1.list hq
    refine wpAny_pyIter_list p.isList ?_
    refine ⟨s1.heap.objs.size, [s1.heap.objs.size], _, _, H1, rfl, I1.kept (t' := s1.toks) fun b o e => Heap.get?_push_of_some _ e, turn_list a _, ⟨_, Heap.get?_push_size _ rfl, rfl, rfl⟩, fun b hb => ?_, q⟩
    have e : b = s1.heap.objs.size := by simpa using hb
    subst e
    exact I1.fpOk (Nat.le_refl _) (I1.hok.fresh (Nat.le_refl _))
  · obtain ⟨its, rv, p, hz⟩ := I1.tuple hq
    refine wpAny_pyIter_tuple (show s1.heap.IsTuple a its.toArray from p) ?_
    refine ⟨s1.heap.objs.size, [s1.heap.objs.size], _, _, H1, rfl, I1.kept (t' := s1.toks) fun b o e => Heap.get?_push_of_some _ e, turn_tuple a _, ⟨_, Heap.get?_push_size _ rfl, rfl, rfl⟩, fun b hb => ?_, q⟩
    have e : b = s1.heap.objs.size := by simpa using hb
    subst e
    exact I1.fpOk (Nat.le_refl _) (I1.hok.fresh (Nat.le_refl _))
end
end Wl
set_option Elab.async false
set_option linter.all false
set_option maxRecDepth 100000
set_option maxHeartbeats 4000000
/-! Wl, part I: enumerate of a list or a tuple. -/
namespace Wl
open PySem PySem.Spec PyProof.Rows L2
section
open Builtin
theorem meets_enum1 {v : Value} {o : Obj} {H : Heap → Prop} (B : Begins v o H) :
    Meets (Builtin.«enumerate.__new__» ⟨[.type "enumerate", v], []⟩) (fun _ R s => H s.heap ∧
      R (.ok (.ret (.ref (s.heap.push o).objs.size))) { s with heap := (s.heap.push o).push { cls := .type "enumerate", data := .fields #[.none, .bool false, .ref s.heap.objs.size, rawInt 0, .none, .none] } }) :=
  .of_wp fun prog w A R s h => by
    obtain ⟨hp, g, d, tk, os⟩ := s; obtain ⟨h1, h⟩ := h
    have hsub := PySem.sub_enumerate
    have q1 : ∀ {A' : Around} {E : Value → Shared → Prop} {Q : Value → Shared → Prop}, Q (.ref hp.objs.size) ⟨hp.push o, g, d, tk, os⟩ → wpAny (model prog w) A' (pyIter v) Q E ⟨hp, g, d, tk, os⟩ :=
      fun q => B.iter prog w _ _ ⟨hp, g, d, tk, os⟩ _ h1 q
    wp_walk using q1
    refine wpAny_stack_any fun st => wpAny_pure ?_
    split
    · rename_i c _ _ _ _ _
      cases (c == Value.type "enumerate")
      · wp_walk using q1
        exact ⟨_, rfl, h⟩
      · wp_walk using q1
        exact ⟨_, rfl, h⟩
    · wp_walk using q1
      exact ⟨_, rfl, h⟩
variable {prog : Program} {w : World} {A : Around} {E : Value → Shared → Prop} {s : Shared}
theorem enum_begins1 {v : Value} {o : Obj} {H : Heap → Prop} {Q : Value → Shared → Prop} (B : Begins v o H) (h1 : H s.heap)
    (h : ∀ h', IsEnum h' (s.heap.objs.size + 1) s.heap.objs.size 0 .none → h'.get? s.heap.objs.size = some o → h'.objs.size = s.heap.objs.size + 2 →
      (∀ b o, s.heap.get? b = some o → h'.get? b = some o) → Q (.ref (s.heap.objs.size + 1)) { s with heap := h' }) :
    wpAny (model prog w) A (call (.type "enumerate") [v]) Q E s := by
  refine callType_new F.called_enumerate (by decide) (F.typeCall_enumerate_1 _) (F.newCall_enumerate_1 _) (fun obj => F.args_object_init_2 obj _) F.entry_enumerate_new
    (meets_enum1 B) ⟨h1, ?_⟩
  have hz : (s.heap.push o).objs.size = s.heap.objs.size + 1 := Heap.size_push ..
  show _ ∧ _
  rw [hz]
  have he : IsEnum ((s.heap.push o).push { cls := .type "enumerate", data := .fields #[.none, .bool false, .ref s.heap.objs.size, rawInt 0, .none, .none] }) (s.heap.objs.size + 1) s.heap.objs.size 0 .none := by
    have := Heap.get?_push_size (s.heap.push o) (o := { cls := .type "enumerate", data := .fields #[.none, .bool false, .ref s.heap.objs.size, rawInt 0, .none, .none] }) rfl
    rw [hz] at this; exact this
  refine ⟨⟨_, he, rfl⟩, h _ he (Heap.get?_push_of_some _ (Heap.get?_push_size _ B.free)) (by rw [Heap.size_push, hz]) fun b o x => Heap.get?_push_of_some _ (Heap.get?_push_of_some _ x)⟩
end
/-- the tuple at a, each item in a new pair -/
def ItE (K : PySem.W.Frag) (a : Addr) : It :=
  ⟨fun i H => ∃ (xs : List V) (x : V), SqT K H a xs ∧ xs[i]? = some x, fun i H v H' => ∃ T x, v = .ref T ∧ H T = none ∧ H' = upd H T (.tup [.int (i : Nat), x]) ∧ ∀ xs, SqT K H a xs → xs[i]? = some x, fun i H => ∃ xs : List V, SqT K H a xs ∧ xs.length = i⟩
theorem turn_enumT {P : Program} {w : World} {K : PySem.W.Frag} {elts : List Expr} {kk : Nat} {tpos : Pos} (a e it : Addr) :
    Turn P w K (.Tuple elts kk tpos) (ItE K a) [e, it] e (fun i h => (∃ old, IsEnum h e it ((i : Nat) : Int) old) ∧ h.IsTupleIter it a i ∧ e ≠ it ∧ a ≠ it ∧ e ≠ a) where
  mem := by simp
  obj := fun i h st b hb => by
    obtain ⟨⟨old, he⟩, ⟨o, ho, hc, hd⟩, _⟩ := st
    have e' : b = e ∨ b = it := by simpa using hb
    rcases e' with z | z
    · rw [z]; exact ⟨_, he, fun v q => nomatch q⟩
    · rw [z]; exact ⟨o, ho, fun v q => by rw [hd] at q; cases q⟩
  keep := fun i h h' st k => let ⟨⟨old, he⟩, hi, hne⟩ := st; ⟨⟨old, k e (by simp) _ he⟩, hi.at fun o q => k it (by simp) o q, hne⟩
  item := by
    intro X hP hw hK hc i pins s σ H E I hf st hg
    subst hP hw hK
    obtain ⟨⟨old, he⟩, hit, hne, hai, hea⟩ := st
    obtain ⟨xs, x, hq, hx⟩ := hg
    obtain ⟨its, rv, p, hz⟩ := I.tuple hq
    obtain ⟨u, hu, ru⟩ := rv.get hx
    have hel : e < s.heap.objs.size := Heap.lt_size he
    have hil : it < s.heap.objs.size := by obtain ⟨_, q, _⟩ := hit; exact Heap.lt_size q
    have hlt : i < its.toArray.size := by
      have := (List.getElem?_eq_some_iff.mp hu).1
      simpa using this
    have D := Draws.tuple (prog := X.prog) (w := X.w) (A := X.A.in1) (I.ok.hd hc) it a hai its.toArray
    refine wpAny_pyNext_enum_itemD D he ⟨hit, p⟩ hlt hne (by simp [hne, hea]) fun y h' tk hy ho hit' hT hsz hk => ?_
    have ey : y = u := by
      have h1 : its.toArray[i]? = some u := by simpa using hu
      have hy' : its.toArray[i]? = some y := hy
      rw [h1] at hy'; exact (Option.some.inj hy').symm
    subst ey
    refine ⟨_, rfl, wpAny_letOwnedTupleGo_enum (s := { s with heap := h', toks := tk + 1 }) ho fun h'' he' sb => ?_⟩
    have hT2 : h''.get? s.heap.objs.size = some { cls := .type "tuple", data := .seq #[.int i tk, y] } := (sb.2 _ (Nat.ne_of_gt hel)).trans hT
    have new : ObjOk X.prog X.w (upd H s.heap.objs.size (.tup [.int (i : Nat), x])) h'' s.heap.objs.size (.tup [.int (i : Nat), x]) :=
      ⟨by show 2 ≤ sizeLine; decide, [.int i tk, y], .cons ⟨_, rfl⟩ (.cons ru .nil), ⟨_, hT2, rfl, _, rfl⟩⟩
    have I1 : Inv X pins σ (upd H s.heap.objs.size (.tup [.int (i : Nat), x])) { s with heap := h'', toks := tk + 1 } :=
      I.turnedNew (ch := [e, it]) (fun b ob hb q => (sb.2 b (fun z => hb (by simp [z]))).trans (hk b ob (fun z => hb (by simp [z])) (fun z => hb (by simp [z])) q)) hf (Nat.le_refl _) new
    refine ⟨.ref s.heap.objs.size, _, I1, rfl, ⟨_, x, rfl, I.hok.fresh (Nat.le_refl _), rfl, fun ys hy => by rw [I.tuple_inj hy hq]; exact hx⟩, ⟨⟨y, ?_⟩, hit'.1.at fun o q => (sb.2 it (Ne.symm hne)).trans q, hne, hai, hea⟩, fun b hb => ?_⟩
    · have e1 : ((i + 1 : Nat) : Int) = (i : Int) + 1 := by omega
      rw [e1]; exact he'
    · have hb' : b < s.heap.objs.size := by
        have e' : b = e ∨ b = it := by simpa using hb
        rcases e' with z | z
        · rw [z]; exact hel
        · rw [z]; exact hil
      rw [upd_ne (Nat.ne_of_lt hb')]
      exact (hf b hb).1
  done := by
    intro X hP hw hK hc i pins s σ H E I hf st hg
    subst hP hw hK
    obtain ⟨⟨old, he⟩, hit, hne, hai, hea⟩ := st
    obtain ⟨xs, hq, hx⟩ := hg
    obtain ⟨its, rv, p, hz⟩ := I.tuple hq
    obtain ⟨f0, f1, f2, f3, f4, f5⟩ := hf it (by simp)
    have hl := rv.length
    have D := Draws.tuple (prog := X.prog) (w := X.w) (A := X.A.in1) (I.ok.hd hc) it a hai its.toArray
    have ei : i = its.toArray.size := by simp; omega
    exact wpAny_pyNext_enum_endD D he ⟨ei ▸ hit, p⟩ fun h' eb => ⟨rfl, I.turned (t' := s.toks) (fun b o hb q => eb b o hb q) f0 f1 f3 f4 f5⟩
  self := fun A i s Q E st h => let ⟨⟨_, he⟩, _⟩ := st; wpAny_pyIter_enum he h
structure iEnumS (K : PySem.W.Frag) (ta : TA) (σ : L2.St) (H : Hp) (R : It → Hp → Prop) : Prop where
  h : ta σ H fun vs H1 => ∃ a xs, vs = [.ref a] ∧ ((SqL K H1 a xs ∧ R (Ite K a) H1) ∨ (SqT K H1 a xs ∧ R (ItE K a) H1))
theorem pi_enumS {X : Cx} {e : Expr} {ta : TA} {p pos tpos : Pos} {elts : List Expr} {kk : Nat} (hg : Gl X "enumerate") (hm : X.mg "enumerate" = none) (ha : PA X [e] ta) (hs : starEach [e] X.env = [(false, eval e X.env)] := by rfl) :
    PI X (.Tuple elts kk tpos) (.Call (.Name "enumerate" p) [e] [] pos) (iEnumS X.K ta) := by
  refine ⟨fun pins s σ H R I ⟨h⟩ => ?_⟩
  refine Call_ (ld_blt I hg hm boot_enumerate (PyProof.Rows.callWith_type1 (thn (ha.run pos pins s σ H _ I h) fun us s1 ⟨vs, H1, I1, r1, q1⟩ => ?_) hs rfl))
  obtain ⟨a, xs, ex, q⟩ := q1
  subst ex
  cases r1 with
  | cons r rr =>
    cases rr
    cases r
    have fp : ∀ b ∈ [s1.heap.objs.size + 1, s1.heap.objs.size], FpOk X pins H1 b := fun b hb => by
      have e' : b = s1.heap.objs.size + 1 ∨ b = s1.heap.objs.size := by simpa using hb
      have hle : s1.heap.objs.size ≤ b := by
        rcases e' with z | z
        · rw [z]; exact Nat.le_add_right _ _
        · rw [z]; exact Nat.le_refl _
      exact I1.fpOk hle (I1.hok.fresh hle)
    rcases q with ⟨hq, q⟩ | ⟨hq, q⟩
    · obtain ⟨its, rv, p', hz⟩ := I1.list hq
      refine call_enumerate_list p'.isList fun h' he hit hsz hk => wpAny_pyIter_enum he ?_
      have I2 : Inv X pins σ H1 { s1 with heap := h' } := I1.kept (t' := s1.toks) hk
      exact ⟨s1.heap.objs.size + 1, [s1.heap.objs.size + 1, s1.heap.objs.size], _, _, H1, rfl, I2, turn_enum a (s1.heap.objs.size + 1) s1.heap.objs.size, ⟨⟨.none, he⟩, hit, Nat.succ_ne_self _⟩, fp, q⟩
    · obtain ⟨its, rv, p', hz⟩ := I1.tuple hq
      have hal : a < s1.heap.objs.size := p'.lt
      refine enum_begins1 (begins_tuple a its.toArray) p' fun h' he hit hsz hk => wpAny_pyIter_enum he ?_
      have I2 : Inv X pins σ H1 { s1 with heap := h' } := I1.kept (t' := s1.toks) hk
      exact ⟨s1.heap.objs.size + 1, [s1.heap.objs.size + 1, s1.heap.objs.size], _, _, H1, rfl, I2, turn_enumT a (s1.heap.objs.size + 1) s1.heap.objs.size,
        ⟨⟨.none, he⟩, ⟨_, hit, rfl, rfl⟩, Nat.succ_ne_self _, Nat.ne_of_lt hal, Nat.ne_of_gt (Nat.lt_succ_of_lt hal)⟩, fp, q⟩
theorem walk_enumT {K : PySem.W.Frag} {a : Addr} {xs : List V} : Walk (ItE K a) xs.length (fun H => SqT K H a xs) (YPair (fun i => some (.int (i : Nat))) (fun i => xs[i]?)) := by
  refine ⟨fun i _ hi q => ⟨xs, xs[i], q, by simp [hi]⟩, fun _ q => ⟨xs, q, rfl⟩, fun i H v H' _ q y => ?_⟩
  obtain ⟨T, x, h1, h2, h3, h4⟩ := y
  exact ⟨T, .int (i : Nat), x, h1, h2, h3, rfl, h4 xs q⟩
end Wl
set_option Elab.async false
set_option linter.all false
set_option maxRecDepth 100000
set_option maxHeartbeats 4000000
/-! Wl, part J: small rules, calls by keywords. -/
namespace Wl
open PySem PySem.Spec PyProof.Rows L2 He
theorem iteT {c A B : Prop} [Decidable c] (h : c) (k : A) : if c then A else B := by rw [if_pos h]; exact k
theorem iteF {c A B : Prop} [Decidable c] (h : ¬ c) (k : B) : if c then A else B := by rw [if_neg h]; exact k
theorem OpR.imp {X : Cx} {f : Value → Value → Sem Value} {r r' : R2} (h : OpR X f r) (k : ∀ x y H Q, r' x y H Q → r x y H Q) : OpR X f r' := fun pins s σ H x y v u Q I rx ry q => h pins s σ H x y v u Q I rx ry (k _ _ _ _ q)
/-- x is True, x is not True -/
theorem op_isT {X : Cx} : OpR X (compareOp .Is) (fun x y H Q => y = .bl true ∧ Q (.bl (decide (x = .bl true))) H) := by
  intro pins s σ H x y v u Q I rx ry h
  obtain ⟨rfl, q⟩ := h
  cases (show u = Value.bool true from ry)
  cases x with
  | non => cases (show v = Value.none from rx); exact wpAny_is_other rfl (fun z => nomatch z) ⟨.bl false, H, I, rfl, q⟩
  | bl b =>
    cases (show v = Value.bool b from rx)
    cases b with
    | true => exact wpAny_is_self rfl ⟨.bl true, H, I, rfl, q⟩
    | false => exact wpAny_is_other rfl (fun z => nomatch z) ⟨.bl false, H, I, rfl, q⟩
  | int i => obtain ⟨t, rfl⟩ := (show ∃ t, v = Value.int i t from rx); exact wpAny_is_other rfl (fun z => nomatch z) ⟨.bl false, H, I, rfl, q⟩
  | str i => obtain ⟨t, rfl⟩ := (show ∃ t, v = Value.str i t from rx); exact wpAny_is_other rfl (fun z => nomatch z) ⟨.bl false, H, I, rfl, q⟩
  | byt i => obtain ⟨t, rfl⟩ := (show ∃ t, v = Value.bytes i t from rx); exact wpAny_is_other rfl (fun z => nomatch z) ⟨.bl false, H, I, rfl, q⟩
  | flt i => obtain ⟨t, rfl⟩ := (show ∃ t, v = Value.float i t from rx); exact wpAny_is_other rfl (fun z => nomatch z) ⟨.bl false, H, I, rfl, q⟩
  | ref a => cases (show v = Value.ref a from rx); exact wpAny_is_other rfl (fun z => nomatch z) ⟨.bl false, H, I, rfl, q⟩
  | ty a => cases (show v = Value.type a from rx); exact wpAny_is_other rfl (fun z => nomatch z) ⟨.bl false, H, I, rfl, q⟩
theorem rd_neS {x y : V} {H : Hp} {Q : VK} (e : x = y) (h : scal x y = true) (q : Q (.bl false) H) : rNe x y H Q := by
  subst e
  refine ⟨h, ?_⟩
  simpa using q
theorem eqv_pair (a b c d : Int) : PyData.eqv (.tuple [.int a, .int b]) (.tuple [.int c, .int d]) = decide (a = c ∧ b = d) := by
  simp only [PyData.eqv, PyData.eqvAll]
  rw [Bool.eq_iff_iff]; simp
/-! ### a list or a tuple, walked in one way -/
def SeqO (o : HO) (xs : List V) : Prop := o = .lst xs ∨ o = .tup xs
theorem rd_seq {K : PySem.W.Frag} {R : It → Hp → Prop} {H : Hp} {v : V} {a : Addr} {o : HO} {xs : List V} (hv : v = .ref a) (ho : SeqO o xs) (h : H a = some o) (k : ∀ J, Walk J xs.length (fun H' => H' a = some o) (YAt xs) → R J H) :
    ∃ a, v = .ref a ∧ ((∃ xs, SqL K H a xs ∧ R (Itl K a) H) ∨ ∃ xs, SqT K H a xs ∧ R (Itt K a) H) := by
  rcases ho with rfl | rfl
  · exact ⟨a, hv, .inl ⟨xs, SqL.of h, k _ (walk_list.mono (fun H' e => SqL.of e) fun _ _ _ _ _ _ y => y)⟩⟩
  · exact ⟨a, hv, .inr ⟨xs, SqT.of h, k _ (walk_tup.mono (fun H' e => SqT.of e) fun _ _ _ _ _ _ y => y)⟩⟩
theorem rd_enum {K : PySem.W.Frag} {R : It → Hp → Prop} {H : Hp} {vs : List V} {a : Addr} {o : HO} {xs : List V} (hv : vs = [.ref a]) (ho : SeqO o xs) (h : H a = some o) (k : ∀ J, Walk J xs.length (fun H' => H' a = some o) (YPair (fun i => some (.int (i : Nat))) (fun i => xs[i]?)) → R J H) :
    ∃ a xs, vs = [.ref a] ∧ ((SqL K H a xs ∧ R (Ite K a) H) ∨ (SqT K H a xs ∧ R (ItE K a) H)) := by
  rcases ho with rfl | rfl
  · exact ⟨a, xs, hv, .inl ⟨SqL.of h, k _ (walk_enum.mono (fun H' e => SqL.of e) fun _ _ _ _ _ _ y => y)⟩⟩
  · exact ⟨a, xs, hv, .inr ⟨SqT.of h, k _ (walk_enumT.mono (fun H' e => SqT.of e) fun _ _ _ _ _ _ y => y)⟩⟩
theorem same_upd {H0 H : Hp} {D : Addr} {o : HO} (n : H0 D = none) (s : Same H0 H) : Same H0 (upd H D o) := fun b u e => by
  rw [upd_ne (ne_of_none e n)]; exact s b u e
theorem rd_seqV {K : PySem.W.Frag} {R : It → Hp → Prop} {H : Hp} {σ : L2.St} {n : Nat} {a : Addr} {o : HO} {xs : List V} (hv : σ[n]? = some (some (.ref a))) (ho : SeqO o xs) (h : H a = some o) (k : ∀ J, Walk J xs.length (fun H' => H' a = some o) (YAt xs) → R J H) : iSeq K (tVar n) σ H R :=
  ⟨⟨_, hv, rd_seq rfl ho h k⟩⟩
theorem rd_enumV {K : PySem.W.Frag} {R : It → Hp → Prop} {H : Hp} {σ : L2.St} {n : Nat} {a : Addr} {o : HO} {xs : List V} (hv : σ[n]? = some (some (.ref a))) (ho : SeqO o xs) (h : H a = some o) (k : ∀ J, Walk J xs.length (fun H' => H' a = some o) (YPair (fun i => some (.int (i : Nat))) (fun i => xs[i]?)) → R J H) : iEnumS K (tCons (tVar n) tNil) σ H R :=
  ⟨⟨_, hv, rd_enum rfl ho h k⟩⟩
theorem rd_ixT {K : PySem.W.Frag} {H : Hp} {Q : VK} {p : Addr} {xs : List V} {i : Int} {v : V} (h : H p = some (.tup xs)) (e : atI xs i = some v) (q : Q v H) : rIx K (.ref p) (.int i) H Q := .inr (.inl ⟨p, xs, i, v, rfl, rfl, SqT.of h, e, q⟩)
theorem rd_ixL {K : PySem.W.Frag} {H : Hp} {Q : VK} {p : Addr} {xs : List V} {i : Int} {v : V} (h : H p = some (.lst xs)) (e : atI xs i = some v) (q : Q v H) : rIx K (.ref p) (.int i) H Q := .inl ⟨p, xs, i, v, rfl, rfl, SqL.of h, e, q⟩
theorem rd_ixO {K : PySem.W.Frag} {H : Hp} {Q : VK} {p : Addr} {o : HO} {xs : List V} {i : Int} {v : V} (h : H p = some o) (ho : SeqO o xs) (e : atI xs i = some v) (q : Q v H) : rIx K (.ref p) (.int i) H Q := by
  rcases ho with rfl | rfl
  · exact rd_ixL h e q
  · exact rd_ixT h e q
theorem SeqO.sq {K : PySem.W.Frag} {H : Hp} {a : Addr} {o : HO} {xs : List V} (ho : SeqO o xs) (h : H a = some o) : SqL K H a xs ∨ SqT K H a xs := by
  rcases ho with rfl | rfl
  · exact .inl (SqL.of h)
  · exact .inr (SqT.of h)
/-- a def's promise, any way in -/
structure FnD (P : Program) (w : World) (K : PySem.W.Frag) (mg : Str → Option Value) (base : Heap) (k : Nat) (f : Addr) (ps : List Str) (sp : Sp) (x qual : Str) (params : Arguments) (body : List Stmt) (scope : Scope) : Prop where
  ex : ∃ fd, FunD K x qual params body scope [] [] f fd ∧ FnOk P w K mg base (L2.CX P w) k f fd ps sp
section
variable {P : Program} {w : World} {K : PySem.W.Frag} {mg : Str → Option Value} {base : Heap} {x qual : Str} {params : Arguments} {body : List Stmt} {scope : Scope} {f : Addr} {N ps : List Str} {k : Nat} {sp : Sp}
theorem fnD_of (hF : ∃ fd, FunD K x qual params body scope [] [] f fd) (S : FnScope N ps scope) (len : ∀ vs H Q E, sp vs H Q E → vs.length = ps.length)
    (hbody : ∀ (cdv : Value) (A : Around) (outer : List Env) (s : Shared) (H : Hp) (vs : List V) (Q : VK) (E : XK), Room k (A.deeper (envOfC qual scope s.heap.objs.size f cdv)) → sp vs H Q E →
      ∃ t, PSs (cxOf (L2.CX P w) P w K mg base N qual scope f cdv A outer s H E) body t ∧ t { nx := fun _ H' => Q .non H', rt := Q } (start N vs) H) : FnD P w K mg base (k + 1) f ps sp x qual params body scope := by
  obtain ⟨fd, F⟩ := hF
  exact ⟨fd, F, F.ok S len hbody⟩
theorem FnD.r (D : FnD P w K mg base k f ps sp x qual params body scope)
    (bnd : ∀ (kV doc pm : Value) (an : Option Addr) (cdv ct : Value) (us : List Value), us.length = ps.length → bindArgs (PySem.W.fnOf x qual params body scope .none kV doc pm an cdv ct) ⟨us, []⟩ = pure (ps.zip us)) : FnR P w K mg base (L2.CX P w) k f sp := by
  obtain ⟨fd, F, G⟩ := D.ex
  exact (G.raw (F.bindsN bnd) .nil).imp fun vs H Q E h => by rw [List.append_nil]; exact h
/-- n values, then the keywords ks -/
def FnKw (P : Program) (w : World) (K : PySem.W.Frag) (mg : Str → Option Value) (base : Heap) (k : Nat) (f : Addr) (n : Nat) (ks : List Str) (sp : Sp) : Prop :=
  ∀ (A : Around) (outer : List Env) (s : Shared) (H : Hp) (us ws : List Value) (vs : List V) (Q : VK) (E : XK), us.length = n → Room k A → Env0 P w K mg base A outer s H → Vals vs (us ++ ws) → sp vs H Q E →
    codeAny (model P w) A (.call (.ref f) ⟨us, ks.zip ws⟩) (CR (L2.CX P w) outer P w H s Q E) s
theorem FnD.kw (D : FnD P w K mg base k f ps sp x qual params body scope) (n : Nat) (ks : List Str) (hn : n + ks.length = ps.length)
    (bnd : ∀ (kV doc pm : Value) (an : Option Addr) (cdv ct : Value) (us ws : List Value), us.length = n → ws.length = ks.length → bindArgs (PySem.W.fnOf x qual params body scope .none kV doc pm an cdv ct) ⟨us, ks.zip ws⟩ = pure (ps.zip (us ++ ws))) : FnKw P w K mg base k f n ks sp := by
  obtain ⟨fd, F, G⟩ := D.ex
  intro A outer s H us ws vs Q E hl hr e0 r hs
  have l1 : (us ++ ws).length = ps.length := by rw [← r.length]; exact G.len _ _ _ _ hs
  have l2 : ws.length = ks.length := by rw [List.length_append, hl] at l1; omega
  refine G.run A outer s H ⟨us, ks.zip ws⟩ (us ++ ws) vs Q E hr e0 ?_ r hs
  obtain ⟨oc, od, dV, kV, doc, pm, an, cdv, ct, osl, rfl, lk, hcd, hD, hK⟩ := F.ex
  rcases hD with ⟨_, rfl⟩ | ⟨e, _⟩
  · exact .of_eq (bnd kV doc pm an cdv ct us ws hl l2)
  · exact absurd rfl e
end
section
variable {X : Cx} {k n : Nat} {f C : Addr} {ks : List Str} {sp : Sp} {E : XK} {x m : Str} {p pos apos : Pos} {e o : Expr} {es : List Expr} {kws : List Keyword} {ta : TE} {t tk : TA}
theorem run_fnKw {pins : List (Addr × Obj)} {σ : L2.St} {H : Hp} {s : Shared} {Q : VK} {us ws : List Value} {vs : List V} (F : FnKw X.prog X.w X.K X.mg X.base k f n ks sp) (hr : Room k X.A) (hx : Passes (L2.CX X.prog X.w) X E) (I : Inv X pins σ H s) (hl : us.length = n) (r : Vals vs (us ++ ws)) (h : sp vs H Q E) :
    wpAny (model X.prog X.w) X.A (call (.ref f) us (ks.zip ws)) (EP X pins σ Q) X.xe s := by
  refine wpAny_call (codeAny_mono (F X.A X.stack s H us ws vs Q E hl hr I.env0 r h) fun r s' hq => ?_)
  cases r with
  | error e => exact hx pins σ H s e s' I hq
  | ok fl =>
    cases fl with
    | ret u => exact I.after hq
    | next => exact False.elim hq
    | brk => exact False.elim hq
    | cont => exact False.elim hq
/-- f(k = v, ..), the keywords in the parameters' order -/
theorem pe_callKR (F : FnKw X.prog X.w X.K X.mg X.base k f 0 ks sp) (hr : Room k X.A) (hk : PySem.W.keepIn X.K (.ref f) = true) (hg : Gl X x) (hm : X.mg x = some (.ref f)) (hx : Passes (L2.CX X.prog X.w) X E) (hkw : PK X kws tk)
    (hall : (backToKw pos (keywordEach kws X.env)).all (·.1.isSome) = true := by rfl) (hks : (backToKw pos (keywordEach kws X.env)).filterMap (·.1) = ks := by rfl) (hdb : (x == ("__debug__" : Str)) = false := by decide)
    (hpl : ((backTo pos (starEach [] X.env)).any (·.1) || (backToKw pos (keywordEach kws X.env)).any (·.1.isNone)) = false := by rfl) :
    PE X (.Call (.Name x p) [] kws pos) (tCallR sp E tk) := by
  refine ⟨fun pins s σ H Q I h => ?_⟩
  refine wpAny_Call_Name_kw (ld_glob I hg hm ?_ hdb)
  refine PySem.W.callWith_KW0 (h₀ := X.base) I.ok.mod.kin hk hall ?_ hpl
  refine thn (hkw.run pos pins s σ H _ I h) fun ws s2 ⟨zs, H2, I2, rz, q2⟩ => ⟨I2.kIn, ?_⟩
  rw [hks]
  exact run_fnKw (us := []) F hr hx I2 rfl rz q2
/-- o.m(k = v, ..) -/
theorem pe_methKSl {pl : Sem Bool} (he : PE X o ta) (c : SlX.SCls X.K C) (hm : Meth X.K C m f) (F : FnKw X.prog X.w X.K X.mg X.base k f 1 ks sp) (hr : Room k X.A) (hx : Passes (L2.CX X.prog X.w) X E) (hkw : PK X kws tk)
    (hall : (backToKw pos (keywordEach kws X.env)).all (·.1.isSome) = true := by rfl) (hks : (backToKw pos (keywordEach kws X.env)).filterMap (·.1) = ks := by rfl)
    (hpl : ((backTo pos (starEach [] X.env)).any (·.1) || (backToKw pos (keywordEach kws X.env)).any (·.1.isNone)) = false := by rfl)
    (ht : eval (.Call (.Attribute o m apos) [] kws pos) X.env = (do
      let ov ← eval o X.env
      standAt apos.atName
      let (f, first) ← holding [ov] (getMethod ov m pl)
      callWith pos f first (backTo pos (starEach [] X.env)) (backToKw pos (keywordEach kws X.env))) := by rfl) :
    PE X (.Call (.Attribute o m apos) [] kws pos) (SlX.tMethSl C sp E ta tk) := by
  refine ⟨fun pins s σ H Q I h => ?_⟩
  refine PySem.W.methodCall_KW (pl := pl) (thn (he.run pins s σ H _ I h) fun u s1 ⟨x, H1, I1, rx, a, dx, vs, ex, hsl, q⟩ => ?_) ht
  subst ex
  obtain rfl : u = Value.ref a := rx
  refine SlX.getmethsl_ok I1 hsl c hm ?_
  refine PySem.W.callWith_KW0 (first := [.ref a]) (h₀ := X.base) I.ok.mod.kin hm.kp hall ?_ hpl
  refine thn (hkw.run pos pins s1 σ H1 _ I1 q) fun ws s2 ⟨zs, H2, I2, rz, q2⟩ => ⟨I2.kIn, ?_⟩
  rw [hks]
  exact run_fnKw (us := [.ref a]) (vs := .ref a :: zs) F hr hx I2 rfl (.cons rfl rz) q2
end
end Wl
set_option Elab.async false
set_option linter.all false
set_option maxRecDepth 100000
set_option maxHeartbeats 4000000
/-! Wl, part K: != of lists whose items are seen equal by an own __eq__; lists of the same items. -/
namespace Wl
open PySem PySem.SeqAt
open AutoSeq1 (wpAny_loadPart')
open MeetsSeq MeetsSeq2 MeetsSeq3 SeqRoads2
section
variable {prog : Program} {w : World} {A : Around} {R : Result → Shared → Prop}
theorem ne_loopG (l b : Addr) (N : Nat) (I : Nat → Shared → Prop) (hl : GQ.ListI prog w A (fun e s' => R (.error e) s') l b N I)
    (fin : ∀ s, I N s → R (.ok (.ret (.bool false))) s) (k : Nat) :
    ∀ i : Nat, N - i = k → i ≤ N → ∀ s, I i s →
      wpAny (model prog w) A.in1 (Builtin.«list.__eq__.loop» ⟨[.ref l, .ref b, rawInt i, rawInt 3], []⟩) (GQ.FinOf prog w A R) (fun e s' => R (.error e) s') s := by
  induction k with
  | zero =>
    intro i hk hi s h
    obtain ⟨items, items2, n, n2, hl1, hb1, hs1, hs2, _⟩ := hl _ _ h
    have hi' : i = N := by omega
    have hR : R (.ok (.ret (.bool false))) s := fin s (hi' ▸ h)
    obtain ⟨hp, g, d, tk, os⟩ := s
    wp_walk using wpAny_loadPart' hl1, wpAny_loadPart' hb1
    have hi1 : items[((i : Nat) : Int).toNat]? = none := by simp; omega
    have hi2 : items2[((i : Nat) : Int).toNat]? = none := by simp; omega
    rw [hi1, hi2]
    wp_walk using wpAny_loadPart' hl1, wpAny_loadPart' hb1
    show R (.ok (.ret (.bool (items.size != items2.size)))) _
    rw [hs1, hs2]
    simpa using hR
  | succ k ih =>
    intro i hk hi s h
    obtain ⟨items, items2, n, n2, hl1, hb1, hs1, hs2, turn⟩ := hl _ _ h
    have hlt : i < items.size := by omega
    have hlt2 : i < items2.size := by omega
    have ht := turn hlt hlt2
    obtain ⟨hp, g, d, tk, os⟩ := s
    wp_walk using wpAny_loadPart' hl1, wpAny_loadPart' hb1
    have hi1 : items[((i : Nat) : Int).toNat]? = some items[i] := by simp [hlt]
    have hi2 : items2[((i : Nat) : Int).toNat]? = some items2[i] := by simp [hlt2]
    have hc : ((i : Int) + 1) = ((i + 1 : Nat) : Int) := by omega
    rw [hi1, hi2]
    refine wpAny_bind (wpAny_mono ht (fun r s2 h2 => ?_) fun _ _ x => x)
    obtain ⟨hr, h2⟩ := h2
    subst hr
    have hrec := ih (i + 1) (by omega) (by omega) s2 h2
    obtain ⟨hp2, g2, d2, tk2, os2⟩ := s2
    wp_walk
    rw [hc]
    exact ⟨plainId_quiet plain_eq_loop _, codeAny_builtin entry_eq_loop (by
      rw [Around.under_plainId plain_eq_loop _]
      exact hrec)⟩
theorem list_neG (l b : Addr) (N : Nat) (I : Nat → Shared → Prop) (hl : GQ.ListI prog w A (fun e s' => R (.error e) s') l b N I)
    (fin : ∀ s, I N s → R (.ok (.ret (.bool false))) s) {s : Shared} (h : I 0 s) :
    wpAny (model prog w) A.in1 (Builtin.«list.__ne__» ⟨[.ref l, .ref b], []⟩) (GQ.FinOf prog w A R) (fun e s' => R (.error e) s') s := by
  obtain ⟨items, items2, n, n2, hl1, hb1, hs1, hs2, _⟩ := hl _ _ h
  have hrec := ne_loopG (A := A) (R := R) l b N I hl fin _ 0 rfl (Nat.zero_le _) s h
  obtain ⟨hp, g, d, tk, os⟩ := s
  have f3 := AutoSeq1.sub_list_list
  have hne : ¬ (items.size != items2.size) = true := by simp [hs1, hs2]
  wp_walk using wpAny_loadPart' hl1, wpAny_loadPart' hb1
  exact ⟨plainId_quiet plain_eq_loop _, codeAny_builtin entry_eq_loop (by
    rw [Around.under_plainId plain_eq_loop _]
    exact hrec)⟩
end
section
variable {prog : Program} {w : World} {A : Around} {E : Value → Shared → Prop} {s : Shared}
theorem rc_listNe {l b : Addr} {N : Nat} {Q : Value → Shared → Prop} (hu : A.units < cLine) (I : Nat → Shared → Prop) (hl : GQ.ListI prog w A E l b N I)
    (fin : ∀ s, I N s → Q (.bool false) s) (h : I 0 s) : wpAny (model prog w) A (richCompare .NotEq (.ref l) (.ref b)) Q E s := by
  obtain ⟨items, items2, n, n2, hl1, hb1, _, _, _⟩ := hl _ _ h
  refine wpAny_richCompare_same_room (op := .NotEq) ⟨_, hl1, rfl⟩ ⟨_, hb1, rfl⟩ F.slot_list_ne (GQ.call_here F.slot_list_ne ⟨_, hl1, rfl⟩ F.entry_list_ne (F.args_list_ne_2 _ _) ?_) hu
  exact list_neG (R := wants (fun v s' => v ≠ .notImplemented ∧ Q v s') E) l b N I hl (fun s' q => ⟨(fun x => nomatch x), fin s' q⟩) h
end
open PySem PySem.Spec PyProof.Rows L2
section
variable {X : Cx} {n : Nat} {D : Eqv}
/-- x != y of lists whose items D says equal -/
def rNeG (D : Eqv) : R2 := fun x y H Q => DList D x y H ∧ ∀ H', Same H H' → Q (.bl false) H'
theorem op_neG (hD : Mon D) (h : EqG X n D) (hr : Room (n + 1) X.A) : OpR X (compareOp .NotEq) (rNeG D) := by
  intro pins s σ H x y v u Q I rx ry hq
  obtain ⟨⟨a, b, xs, ys, rfl, rfl, ha, hb, p⟩, q⟩ := hq
  cases rx
  cases ry
  show wpAny (model X.prog X.w) X.A (richCompare .NotEq (.ref a) (.ref b)) (EP X pins σ Q) X.xe s
  refine rc_listNe (N := xs.length) hr.units0 (fun _ s' => LoopI X pins σ H s') (fun i s' q => ?_) (fun s' q' => ?_) ⟨H, I, Ext.rfl'⟩
  · obtain ⟨H1, I1, e1⟩ := id q
    obtain ⟨z, its, k, r, e⟩ := I1.hok a _ (e1 _ _ ha)
    obtain ⟨z2, its2, k2, r2, e2⟩ := I1.hok b _ (e1 _ _ hb)
    refine ⟨its.toArray, its2.toArray, k, k2, e, e2, by rw [List.size_toArray, ← r.length], by rw [List.size_toArray, ← r2.length, ← p.1], fun h1 h2 => ?_⟩
    exact turnG hD h ⟨hr, rfl⟩ p r r2 i h1 h2 s' q
  · obtain ⟨H1, I1, e1⟩ := q'
    exact ⟨.bl false, H1, I1, rfl, q H1 e1⟩
theorem op_eqLG (hD : Mon D) (h : EqG X n D) (hr : Room (n + 1) X.A) : OpR X (compareOp .Eq) (fun x y H Q => DList D x y H ∧ ∀ H', Same H H' → Q (.bl true) H') := op_eqG (rcG_list hD h) hr
/-- the same thing, or flat and the same -/
def DSelf : Eqv := fun x y _ => x = y ∧ ((∃ a, x = .ref a) ∨ ∃ i, x = .int i)
theorem mon_self : Mon DSelf := fun _ _ _ _ _ d => d
theorem eqG_self : EqG X 0 DSelf := by
  intro A pins s σ H x y u v sb I rx ry d
  obtain ⟨rfl, d⟩ := d
  rcases d with ⟨a, rfl⟩ | ⟨i, rfl⟩
  · cases rx
    cases ry
    exact SeqAt.EqAt.same (A := A) (s := s) (.ref a) X.prog X.w X.xe _ ⟨rfl, H, I, Ext.rfl'⟩
  · exact eqG_flat A pins s σ H _ _ u v sb I rx ry ⟨rfl, rfl, by show (i == i) = true; simp⟩
theorem Prs.self {xs : List V} {H : Hp} (h : ∀ x ∈ xs, (∃ a, x = .ref a) ∨ ∃ i, x = .int i) : Prs DSelf xs xs H :=
  ⟨rfl, fun i x y h1 h2 => by rw [h1] at h2; cases h2; exact ⟨rfl, h x (List.mem_of_getElem? h1)⟩⟩
/-- an own __eq__ that says yes, inside a list -/
theorem eqG_own {C f : Addr} {sp : Sp} (D : Eqv) (hs : PySem.W.findIn X.K (.ref C) "__eq__" = some (some (.ref f))) (hf : PySem.W.isFn X.K (.ref f) = true) (F : FnR X.prog X.w X.K X.mg X.base (L2.CX X.prog X.w) n f sp)
    (hD : ∀ x y H, D x y H → ∃ a dx vs t, x = .ref a ∧ SlX.Slt H a C dx vs ∧ TyY X.K C y H t ∧ PySem.W.notFirst X.K C t = true ∧ sp [x, y] H (fun v H' => v = .bl true ∧ Ext H H') E0) : EqG X n D := by
  intro A pins s σ H x y u v sb I rx ry d
  obtain ⟨a, dx, vs, t, rfl, ha, hy, hn, hsp⟩ := hD _ _ _ d
  cases (show u = Value.ref a from rx)
  have rc : wpAny (model X.prog X.w) A (richCompare .Eq (.ref a) v) (fun r s' => r = .bool true ∧ ∃ H', Inv X pins σ H' s' ∧ Ext H H') X.xe s := by
    obtain ⟨sl, od, _, J, _⟩ := SlX.slt_inst I ha
    obtain ⟨m, hF⟩ := I.fr
    refine PySem.W.cmp_K (op := .Eq) (tb := t) sb.room.units0 hF I.ok.mod.kin J (tyY_looks I ry hy) hn hs hf ?_
    have e0 : Env0 X.prog X.w X.K X.mg X.base A X.stack s H := by
      have e := I.env0
      exact ⟨by rw [sb.fr]; exact e.frames, e.mod, e.bs, e.bsz, e.funs, e.frf, e.hok, e.bare⟩
    have r2 : Vals [V.ref a, y] [Value.ref a, v] := .cons rfl (.cons ry .nil)
    refine wpAny_call (codeAny_mono (F A X.stack s H [.ref a, v] [.ref a, y] _ E0 sb.room e0 r2 hsp) fun r s' hq => ?_)
    cases r with
    | error e => exact (cx_never hq).elim
    | ok fl =>
      cases fl with
      | ret w =>
        obtain ⟨z, H', I', rz, ez, ex⟩ := I.after hq
        subst ez
        cases rz
        exact ⟨rfl, H', I', ex⟩
      | next => exact False.elim hq
      | brk => exact False.elim hq
      | cont => exact False.elim hq
  by_cases hab : v = .ref a
  · subst hab
    exact SeqAt.EqAt.same (A := A) (s := s) (.ref a) X.prog X.w X.xe _ ⟨rfl, H, I, Ext.rfl'⟩
  · unfold eqBool
    refine wpAny_holding ?_
    refine wpAny_ite_split (fun h => absurd (eq_of_beq h).symm hab) (fun _ => ?_)
    refine wpAny_bind (wpAny_mono rc (fun r s' hv => ?_) fun _ _ x => x)
    obtain ⟨rfl, q⟩ := hv
    exact wpAny_truthy_bool ⟨rfl, q⟩
end
end Wl
set_option Elab.async false
set_option linter.all false
set_option maxRecDepth 100000
set_option maxHeartbeats 4000000
/-! Wl, part L: chained comparisons. -/
namespace Wl
open PySem PySem.Spec PyProof.Rows L2 He
structure Chn (r r' : R2) (tc : TE) (σ : L2.St) (x y : V) (H : Hp) (Q : VK) : Prop where
  h : r x y H fun z H3 => ∃ k, z = .bl k ∧ (if k = true then tc σ H3 fun w' H4 => r' y w' H4 Q else Q (.bl false) H3)
def tChainS (r r' : R2) (ta tb tc : TE) : TE := fun σ H Q => ta σ H fun x H1 => tb σ H1 fun y H2 => Chn r r' tc σ x y H2 Q
theorem pe_chainS {X : Cx} {a b c : Expr} {pos : Pos} {ta tb tc : TE} {op op' : CmpOp} {r r' : R2} (ho : OpR X (compareOp op) r) (ho' : OpR X (compareOp op') r') (ha : PE X a ta) (hb : PE X b tb) (hc : PE X c tc)
    (hm : lastMarks [op, op'] [b, c] = false := by with_unfolding_all rfl) : PE X (.Compare a [op, op'] [b, c] pos) (tChainS r r' ta tb tc) := by
  refine ⟨fun pins s σ H Q I h => ?_⟩
  refine Compare_chain (thn (ha.run pins s σ H _ I h) fun v s1 ⟨x, H1, I1, r1, q1⟩ => chain_link (thn (hb.run pins s1 σ H1 _ I1 q1) fun u s2 ⟨y, H2, I2, r2, q2⟩ =>
    thn (ho pins s2 σ H2 x y v u _ I2 r1 r2 q2.h) fun d s3 ⟨z, H3, I3, r3, k, e, q3⟩ => ?_)) hm
  subst e
  cases r3
  refine wpAny_truthy_bool ?_
  cases k with
  | false => exact ite_ff ⟨.bl false, H3, I3, rfl, q3⟩
  | true => exact ite_tt (chain_last (thn (hc.run pins s3 σ H3 _ I3 q3) fun w' s4 ⟨z', H4, I4, r4, q4⟩ => ho' pins s4 σ H4 y z' u w' Q I4 r2 r4 q4))
theorem rd_chn {f g : Int → Int → V} {tc : TE} {σ : L2.St} {i j : Int} {H : Hp} {Q : VK} (l : Int) (b1 b2 : Bool) (h1 : f i j = .bl b1) (h2 : g j l = .bl b2) (hc : ∀ Q' : VK, Q' (.int l) H → tc σ H Q') (k : Q (.bl (b1 && b2)) H) :
    Chn (rI0 f) (rI0 g) tc σ (.int i) (.int j) H Q := by
  refine ⟨i, j, rfl, rfl, b1, h1, ?_⟩
  cases b1 with
  | true =>
    refine hc _ ⟨j, l, rfl, rfl, ?_⟩
    rw [h2]; exact k
  | false => exact k
/-! ### C(k = v, ..), told by what is asked of the values -/
theorem pe_makeKS {X : Cx} {CX : CXT} {k : Nat} {f C : Addr} {fd : FuncData} {ps ks : List Str} {sp : Sp} {E : XK} {x : Str} {p pos : Pos} {kws : List Keyword} {tk : TA} {g : List Value → List Value → List Value} {gV : List V → List V → List V}
    {S : List V → Hp → VK → XK → Prop} (M : Mk X.K C f) (F : FnOk X.prog X.w X.K X.mg X.base CX k f fd ps sp) (hr : Room (k + 1) X.A) (hg : Gl X x) (hm : X.mg x = some (.ref C)) (hb : KBn X.K fd ps 1 ks g gV) (hx : Passes CX X E)
    (hS : ∀ zs H Q, S zs H Q E → zs.length = ks.length ∧ ∀ x dx, H x = none → H dx = none → dx ≠ x → sp (gV [.ref x] zs) (upd (upd H dx (.own x)) x (.ins C dx [])) (fun v H2 => v = .non ∧ Q (.ref x) H2) E) (hkw : PK X kws tk)
    (hall : (backToKw pos (keywordEach kws X.env)).all (·.1.isSome) = true := by rfl) (hks : (backToKw pos (keywordEach kws X.env)).filterMap (·.1) = ks := by rfl) (hdb : (x == ("__debug__" : Str)) = false := by decide)
    (hpl : ((backTo pos (starEach [] X.env)).any (·.1) || (backToKw pos (keywordEach kws X.env)).any (·.1.isNone)) = false := by rfl) :
    PE X (.Call (.Name x p) [] kws pos) (tCallR S E tk) := by
  refine ⟨fun pins s σ H Q I h => ?_⟩
  refine wpAny_Call_Name_kw (ld_glob I hg hm ?_ hdb)
  refine PySem.W.callWith_KW0 (h₀ := X.base) I.ok.mod.kin M.kp hall ?_ hpl
  refine thn (hkw.run pos pins s σ H _ I h) fun ws s2 ⟨zs, H2, I2, rz, q2⟩ => ⟨I2.kIn, ?_⟩
  rw [hks]
  obtain ⟨l2, q3⟩ := hS _ _ _ q2
  exact run_makeK (us := []) (vs := []) M F hr hb hx I2 .nil rz rfl l2 q3
theorem same_sb {H0 H H' : Hp} {b : Addr} (s : Same H0 H) (t : SB b H H') (n : H0 b = none) : Same H0 H' := fun c o e => t c o (s c o e) (ne_of_none e n)
end Wl
set_option Elab.async false
set_option linter.all false
set_option maxRecDepth 100000
set_option maxHeartbeats 4000000
/-! Wl, part M: from the law's def to the row; what may be let out is told by the world. -/
namespace Wl
open PySem PySem.Spec PyProof.Rows L2 He
theorem walk_ofW {l : PySem.W.OpenLaw} {n k : Nat} {q : Program} {loose : List Str} {XP : (Str → Option Value) → Heap → Prop} {YP : World → Heap → Prop} {d : DefRec} {CX : World → CXT} {x : Str}
    (hn : l.most = some n) (hn2 : n ≤ sizeLine) (hdf : d.params.defaults = []) (hr : Room k callerA)
    (F : ∀ (w : World) (mg : Str → Option Value) (fa : Addr) (h : Heap), YP w h → h.Ns mainGlobals mg → mg d.name = some (.ref fa) →
      ∃ (K : PySem.W.Frag) (fd : FuncData) (sp : Sp), K.In h ∧ (∀ (s : Shared) (u : Value), BindsTo s fd ⟨[u], []⟩ [(x, u)]) ∧
        (∀ (H : Hp) (a : Addr) (ns : List Int), ns.length ≤ n → Only H → SqL K H a (ns.map V.int) → sp [.ref a] H (fun v _ => v = .bl true) fun _ _ _ => False) ∧
        ∀ base : Heap, K.In base → base.Ns mainGlobals mg → FnOk l.prog w K mg base (CX w) k fa fd [x] sp)
    (hCX : ∀ (w : World) (H : Hp) (s : Shared) (e : Value) (s' : Shared), CX w [] H s (fun _ _ _ => False) e s' → False) :
    PySem.W.WalkO q loose XP YP l.row.toRowW d [] (fun f vs => PySem.call f vs) := by
  refine Att.attach_call hn hdf fun w s₀ s₁ mg mb fa o pm cd doc a vs ns G Y ho hd hcd hmg hobj hints hlen hg => ?_
  obtain ⟨K, fd, sp, KX, hb, hsp, hF⟩ := F w mg fa _ Y G.T.g hmg
  exact law_call KX G.T.g G.T.b G.T.builtins G.T.nolimit hg hobj hints (Nat.le_trans hlen hn2) hr hF hb (fun H hO hS => hsp H a ns hlen hO hS) fun H e s' => hCX w H s₁ e s'
end Wl
set_option Elab.async false
set_option linter.all false
set_option maxRecDepth 100000
set_option maxHeartbeats 4000000
/-! Wl, part N: several except clauses, some with a name; a class in a local name, called. -/
namespace Wl
open PySem PySem.Spec PyProof.Rows L2 He
abbrev Sut := Addr → Value → Option Addr → TS
/-- the ends of a suite whose name is in slot i -/
def endAs (i : Nat) (D : Ends) : Ends := { nx := fun σ' H' => D.nx (σ'.set i none) H', rt := D.rt, bk := fun σ' H' => D.bk (σ'.set i none) H', ct := fun σ' H' => D.ct (σ'.set i none) H' }
/-- the clauses, one after the other; a clause: its class, its name's slot, its suite -/
def wMix (K : PySem.W.Frag) (Wout : WX) (D : Ends) : List (Value × Option Nat × Sut) → WX
  | [] => Wout
  | (c, o, ts) :: r => fun cls d σ H => ∃ b, PySem.W.exmOne K cls c = some b ∧ (b = true → ∀ a, H a = none → match o with
      | none => ts a cls d D σ H
      | some i => ts a cls d (endAs i D) (σ.set i (some (.ref a))) H) ∧ (b = false → wMix K Wout D r cls d σ H)
inductive MixOk (X : Cx) : List ExceptHandler → List (Value × Option Nat × Sut) → Prop
  | nil : MixOk X [] []
  | plain {x : Str} {c : Value} {ts : Sut} {b₀ : Stmt} {suite : List Stmt} {np pos' : Pos} {hds : List ExceptHandler} {l : List (Value × Option Nat × Sut)} (hc : Names X x c)
      (hsu : ∀ (a : Addr) (oe : Obj) (cls : Value) (d : Option Addr) (pn : List (Addr × Obj)), Zc cls d oe → (∃ vs, oe.data = .fields vs) → PSs (X.suite a ((a, oe) :: pn)) (b₀ :: suite) (ts a cls d)) (r : MixOk X hds l) :
      MixOk X (.ExceptHandler (some (.Name x np)) none (b₀ :: suite) pos' :: hds) ((c, none, ts) :: l)
  | named {x n : Str} {i : Nat} {c : Value} {ts : Sut} {b₀ : Stmt} {suite : List Stmt} {np pos' : Pos} {hds : List ExceptHandler} {l : List (Value × Option Nat × Sut)} (hN : X.N.Nodup) (hi : X.N[i]? = some n) (hln : X.env.kindOf n = some .local) (hc : Names X x c)
      (hsu : ∀ (a : Addr) (oe : Obj) (cls : Value) (d : Option Addr) (pn : List (Addr × Obj)), Zc cls d oe → (∃ vs, oe.data = .fields vs) → PSs (X.suite a ((a, oe) :: pn)) (b₀ :: suite) (ts a cls d)) (r : MixOk X hds l) :
      MixOk X (.ExceptHandler (some (.Name x np)) (some n) (b₀ :: suite) pos' :: hds) ((c, some i, ts) :: l)
section
variable {X : Cx} {body : List Stmt} {h₀ : ExceptHandler} {hds : List ExceptHandler} {l : List (Value × Option Nat × Sut)} {pos : Pos} {tb : WX → TS} {Wout : WX}
theorem ps_try_mix (hs : X.stack = X.env :: X.outer) (hf : X.env.frame = some X.env.locals) (tk : Takes X Wout)
    (hb : ∀ (W : WX) (pn : List (Addr × Obj)) (xe : Value → Shared → Prop), Takes (X.tr pn xe) W → PassesOwn (model X.prog X.w) X.A X.env xe → PSs (X.tr pn xe) body (tb W))
    (hh : MixOk X (h₀ :: hds) l) : PS X (.Try body (h₀ :: hds) [] [] pos) (fun D σ H => tb (wMix X.K Wout D l) D σ H) := by
  refine ⟨fun pins s σ H D I h => ?_⟩
  have ok := I.ok
  refine wpAny_Try_except (wpAny_mono ((hb (wMix X.K Wout D l) (X.pn ++ pins) _ (fun u s' xx => ?c1) PassesOwn.looking).run [] s σ H D (I.toTry _) h) (fun f s1 hsp => ?c2) (fun e s1 he => he))
  case c2 =>
    cases f with
    | ret u => obtain ⟨v, σ', H', J', r, q⟩ := hsp; exact ⟨v, σ', H', J'.ofTry ok, r, q⟩
    | next => obtain ⟨σ', H', J', q⟩ := hsp; exact wpAny_execs_nil ⟨σ', H', J'.ofTry ok, q⟩
    | brk => obtain ⟨σ', H', J', q⟩ := hsp; exact ⟨σ', H', J'.ofTry ok, q⟩
    | cont => obtain ⟨σ', H', J', q⟩ := hsp; exact ⟨σ', H', J'.ofTry ok, q⟩
  case c1 =>
    obtain ⟨a, B, sI, pins', σ', H', cls, d, rfl, J', nb, up, sky, na, os, ag, w⟩ := xx
    have J : Inv X pins σ' H' sI := J'.ofTry ok
    rw [hs] at sky
    refine Sky.land Zc.steady (by rw [ok.frames, hs]) hf sky fun h3 fl3 up3 => ?_
    have J3 : Inv X pins σ' H' { s' with heap := h3 } := J.landed nb fl3.1 (up.trans up3) os ag
    obtain ⟨oe3, vs3, he3, hz3, hd3⟩ := fl3.there
    have nfr : a ∉ frs (X.env :: X.outer) := fun hm => by
      obtain ⟨_, o', e', hnf⟩ := (fl3.2.2.1).mem hm
      rw [he3] at e'; cases e'; exact hnf _ hd3
    have nL : a ≠ X.env.locals := fun z => nfr (List.mem_filterMap.mpr ⟨X.env, List.mem_cons_self, by rw [hf, z]⟩)
    have nF : a ∉ X.fs := fun hm => by
      obtain ⟨e, he, q⟩ := List.mem_filterMap.mp hm
      exact nfr (List.mem_filterMap.mpr ⟨e, List.mem_cons_of_mem _ he, q⟩)
    have S3 := J3.suite he3 hd3 na nL nF
    have LT : PySem.W.Looks (model X.prog X.w) h3 (typeOf (.ref a)) cls := fun A Q E s k q => wpAny_typeOf_ref (k _ _ he3) (by rw [hz3.1]; exact q)
    have test : ∀ {x : Str} {np : Pos} {c : Value} {Q : Value → Shared → Prop} {E : Value → Shared → Prop}, Names X x c → Q c { s' with heap := h3 } → wpAny (model X.prog X.w) (X.A.mark (some (.ref a))) (eval (.Name x np) X.env) Q E { s' with heap := h3 } := fun {x np c Q E} hc q => by
      obtain ⟨hg, hdbg, hm | ⟨hm, hv, hnn⟩⟩ := hc
      · exact ld_glob (X := X.suite a ((a, oe3) :: (X.pn ++ pins))) S3 hg hm q hdbg
      · exact ld_blt (X := X.suite a ((a, oe3) :: (X.pn ++ pins))) S3 hg hm hv q hnn hdbg
    have go : ∀ {hds' : List ExceptHandler} {l' : List (Value × Option Nat × Sut)}, MixOk X hds' l' → wMix X.K Wout D l' cls d σ' H' →
        wpAny (model X.prog X.w) X.A (handleBy (.ref a) X.env hds') (SP X pins D) X.xe { s' with heap := h3 } := by
      intro hds' l' hk
      induction hk with
      | nil =>
        intro w
        refine wpAny_handleBy_nil ?_
        obtain ⟨k1, k2, k3, oe, vs, T, oT, ts', he, hz, hd, h1, hr⟩ := id fl3
        unfold PySem.passOn
        refine wpAny_bind (wpAny_field he hd h1 ?_)
        rw [if_neg (show ¬ ((Value.ref T == Value.none) = true) from by simp), hf]
        have fin : wpAny (model X.prog X.w) X.A (setFlight (.ref a) (some X.env.locals)) (fun _ s4 => wpAny (model X.prog X.w) X.A (throw (.ref a) : Sem Flow) (SP X pins D) X.xe s4) X.xe { s' with heap := h3 } :=
          HandSPX.setFlight_upZ fl3 fun h4 hh4 up4 => wpAny_throw (tk _ _ ⟨a, B, sI, pins, σ', H', cls, d, rfl, J, nb, (up.trans up3).trans up4, .inr (.inr (by rw [hs]; exact hh4)), na, os, ag, w⟩)
        first
          | exact wpAny_bind (wpAny_pure (wpAny_bind fin))
          | exact wpAny_bind fin
      | @plain x c ts b₀ suite np pos' hds2 l2 hc hsu r ih =>
        rintro ⟨b, hb1, hyes, hno⟩
        refine wpAny_handleBy_cons (codeAny_handlers_test (test hc ((PySem.W.exm_one (M := model X.prog X.w) (J3.kIn) LT hb1).here ?_))) (by intro q; cases q)
        cases b with
        | false => exact ih (hno rfl)
        | true =>
          refine codeAny_handlers_suite (HandSPX.lands_againZ fl3 fun h4 fl4 up4 => ?_)
          obtain ⟨oe4, vs4, he4, hz4, hd4⟩ := fl4.there
          have S4 := (show Inv X pins σ' H' { s' with heap := h4 } from J.landed nb fl4.1 ((up.trans up3).trans up4) os ag).suite he4 hd4 na nL nF
          refine wpAny_mono ((hsu a oe4 cls d (X.pn ++ pins) hz4 ⟨_, hd4⟩).run [] _ _ H' _ S4 (hyes rfl a na)) (fun f s6 hsp => ?_) (fun _ _ z => False.elim z)
          cases f with
          | ret u => obtain ⟨v6, σ6, H6, S6, r6, q6⟩ := hsp; exact ⟨_, _, _, S6.unsuite ok, r6, q6⟩
          | next => obtain ⟨σ6, H6, S6, q6⟩ := hsp; exact ⟨_, _, S6.unsuite ok, q6⟩
          | brk => obtain ⟨σ6, H6, S6, q6⟩ := hsp; exact ⟨_, _, S6.unsuite ok, q6⟩
          | cont => obtain ⟨σ6, H6, S6, q6⟩ := hsp; exact ⟨_, _, S6.unsuite ok, q6⟩
      | @named x n i c ts b₀ suite np pos' hds2 l2 hN hi hln hc hsu r ih =>
        rintro ⟨b, hb1, hyes, hno⟩
        refine wpAny_handleBy_cons (codeAny_handlers_test (test hc ((PySem.W.exm_one (M := model X.prog X.w) (J3.kIn) LT hb1).here ?_))) (by intro q; cases q)
        cases b with
        | false => exact ih (hno rfl)
        | true =>
          refine codeAny_handlers_suite_as (HandSPX.lands_againZ fl3 fun h4 fl4 up4 => ?_)
          obtain ⟨oe4, vs4, he4, hz4, hd4⟩ := fl4.there
          have S4 := (show Inv X pins σ' H' { s' with heap := h4 } from J.landed nb fl4.1 ((up.trans up3).trans up4) os ag).suite he4 hd4 na nL nF
          refine store_ok (X := X.suite a ((a, oe4) :: (X.pn ++ pins))) (v := .ref a) S4 hN hi (.inl hln) rfl (fun s5 S5 => ?_) (.inr hln)
          refine wpAny_mono ((hsu a oe4 cls d (X.pn ++ pins) hz4 ⟨_, hd4⟩).run [] s5 _ H' _ S5 (hyes rfl a na)) (fun f s6 hsp => ?_) (fun _ _ z => False.elim z)
          have over : ∀ {σ6 : L2.St} {H6 : Hp} {Q : Shared → Prop}, Inv (X.suite a ((a, oe4) :: (X.pn ++ pins))) [] σ6 H6 s6 → (∀ s7, Inv X pins (σ6.set i none) H6 s7 → Q s7) →
              wpAny (model X.prog X.w) X.A (do bindName X.env n .none; unbindBehindTheSuite X.env n pos') (fun _ s7 => Q s7) X.xe s6 := fun {σ6 H6 Q} S6 hq => gone_ok (S6.unsuite ok) hN hi hln hq
          cases f with
          | ret u => obtain ⟨v6, σ6, H6, S6, r6, q6⟩ := hsp; exact over S6 fun s7 J7 => ⟨_, _, _, J7, r6, q6⟩
          | next => obtain ⟨σ6, H6, S6, q6⟩ := hsp; exact over S6 fun s7 J7 => ⟨_, _, J7, q6⟩
          | brk => obtain ⟨σ6, H6, S6, q6⟩ := hsp; exact over S6 fun s7 J7 => ⟨_, _, J7, q6⟩
          | cont => obtain ⟨σ6, H6, S6, q6⟩ := hsp; exact over S6 fun s7 J7 => ⟨_, _, J7, q6⟩
    exact go hh w
/-- what a callee may let out is taken, whatever the slots are -/
theorem passes_len {W : WX} (n : Nat) (tk : Takes X W) (hn : X.N.length = n := by rfl) : Passes (L2.CX X.prog X.w) X (fun cls d H => ∀ σ : L2.St, σ.length = n → W cls d σ H) := fun _ σ _ _ e s' I c => tk e s' (XE.of_call I (fun cls d H' h => h σ (I.len.trans hn)) c)
end
/-! ### C(e, ..), C in a local name -/
section
variable {X : Cx} {CX : CXT} {k i : Nat} {f C : Addr} {sp : Sp} {E : XK} {x : Str} {e : Expr} {es : List Expr} {t : TA} {p pos : Pos}
def tMakeV (i : Nat) (C : Addr) (S : List V → Hp → VK → XK → Prop) (E : XK) (t : TA) : TE := fun σ H Q => σ[i]? = some (some (.ref C)) ∧ t σ H fun vs H1 => S vs H1 Q E
theorem pe_makeV {S : List V → Hp → VK → XK → Prop} (M : Mk X.K C f) (F : FnR X.prog X.w X.K X.mg X.base CX k f sp) (hr : Room (k + 1) X.A) (hx : Passes CX X E) (hN : X.N[i]? = some x) (hv : Vis X.env.scope x)
    (hS : ∀ vs H Q, S vs H Q E → ∀ x dx, H x = none → H dx = none → dx ≠ x → sp (.ref x :: vs) (upd (upd H dx (.own x)) x (.ins C dx [])) (fun v H2 => v = .non ∧ Q (.ref x) H2) E) (ha : PA X (e :: es) t)
    (hd : (x == ("__debug__" : Str)) = false := by decide) (hcd : (x == ("__classdict__" : Str)) = false := by decide)
    (he : starEach (e :: es) X.env = (false, eval e X.env) :: starEach es X.env := by rfl) (hpl : (backTo pos (starEach es X.env)).any (·.1) = false := by rfl) : PE X (.Call (.Name x p) (e :: es) [] pos) (tMakeV i C S E t) := by
  refine ⟨fun pins s σ H Q I ⟨hs, h⟩ => ?_⟩
  refine wpAny_Call_Name_kw (thn ((pe_var (pos := p) (i := i) hN hv hd hcd).run pins s σ H (fun v H1 => v = .ref C ∧ H1 = H) I ⟨.ref C, hs, rfl, rfl⟩) fun u s1 ⟨v, H1, I1, r1, ev, eH⟩ => ?_)
  subst ev eH
  cases r1
  exact PySem.W.callWith_K (h₀ := X.base) I.ok.mod.kin M.kp (thn (ha.run pos pins s1 σ _ _ I1 h) fun us s2 ⟨vs, H2, I2, r, q⟩ => ⟨I2.kIn, run_makeR M F hr hx I2 r (hS _ _ _ q)⟩) he hpl
end
end Wl
set_option Elab.async false
set_option linter.all false
set_option maxRecDepth 100000
set_option maxHeartbeats 4000000
/-! Wl, part O: wide powers; == and != of data with any texts; != of tuples. -/
namespace Wl
section
open PySem PySem.SeqAt
open AutoSeq1 (wpAny_loadPart')
open MeetsSeq MeetsSeq2 MeetsSeq3 SeqRoads2
variable {prog : Program} {w : World} {A : Around} {R : Result → Shared → Prop}
/-- two tuples whose items are seen equal are not unequal -/
theorem tuple_neG (l b : Addr) (xs ys : Array Value) (n n2 : Nat) (dd dd2 : Option Addr) (sl sl2 : Array (Option Value)) (hsz : xs.size = ys.size) (I : Nat → Shared → Prop)
    (turn : ∀ i (h1 : i < xs.size) (h2 : i < ys.size) s, I i s → wpAny (model prog w) A.in1 (eqBool xs[i] ys[i]) (fun r s' => r = true ∧ I (i + 1) s') (fun e s' => R (.error e) s') s)
    (fin : ∀ s, I xs.size s → R (.ok (.ret (.bool false))) s) {s : Shared} (hx : s.heap.get? l = some { cls := .type "tuple", dict := dd, data := .seq xs n, slots := sl }) (hy : s.heap.get? b = some { cls := .type "tuple", dict := dd2, data := .seq ys n2, slots := sl2 }) (h : I 0 s) :
    wpAny (model prog w) A.in1 (Builtin.«tuple.__ne__» ⟨[.ref l, .ref b], []⟩) (GQ.FinOf prog w A R) (fun e s' => R (.error e) s') s := by
  have f2 := AutoSeq1.sub_tuple_tuple
  have hZ : (xs.toList.zip ys.toList).length = xs.size := by simp [hsz]
  have start := h
  obtain ⟨hp, g, d, tk, os⟩ := s
  wp_walk using wpAny_loadPart' hx, wpAny_loadPart' hy, wpAny_forIn_list _ (fun rest b s' => b.1 = none ∧ ∃ i, rest = (xs.toList.zip ys.toList).drop i ∧ i ≤ xs.size ∧ I i s') _
  case h => exact ⟨rfl, 0, rfl, Nat.zero_le _, start⟩
  case turn =>
    rintro ⟨p, q⟩ rest b s' ⟨hb', i, hz, hi, hI⟩
    have hlt : i < (xs.toList.zip ys.toList).length := Nat.lt_of_not_le fun h' => by rw [List.drop_of_length_le h'] at hz; cases hz
    have h1 : i < xs.size := hZ ▸ hlt
    have h2 : i < ys.size := hsz ▸ h1
    rw [List.drop_eq_getElem_cons hlt] at hz
    injection hz with hpq hrest
    have ep : p = xs[i] := by simpa using congrArg Prod.fst hpq
    have eq : q = ys[i] := by simpa using congrArg Prod.snd hpq
    subst ep eq
    refine wpAny_bind (wpAny_mono (turn i h1 h2 s' hI) (fun r s2 q2 => ?_) fun _ _ x => x)
    obtain ⟨hr, q2⟩ := q2
    subst hr
    wp_walk
    exact ⟨rfl, i + 1, hrest, h1, q2⟩
  case fin =>
    rintro ⟨b1, b2⟩ s' ⟨hb', i, hz, hi, hI⟩
    simp only at hb'
    subst hb'
    have hge : xs.size ≤ i := Nat.le_of_not_lt fun h' => by rw [List.drop_eq_getElem_cons (hZ ▸ h')] at hz; cases hz
    have hR : R (.ok (.ret (.bool false))) s' := fin s' ((Nat.le_antisymm hi hge) ▸ hI)
    wp_walk
    simpa [Builtin.Tuple.tupleCompareSizes, hsz] using hR
end
section
open PySem PySem.Spec PyProof.Rows L2 He
variable {X : Cx} {n : Nat} {D : Eqv}
/-- x != y of tuples whose items D says equal -/
theorem op_neTG (hD : Mon D) (h : EqG X n D) (hr : Room (n + 1) X.A) : OpR X (compareOp .NotEq) (fun x y H Q => DTup X.K D x y H ∧ ∀ H', Same H H' → Q (.bl false) H') := by
  intro pins s σ H x y v u Q I rx ry hq
  obtain ⟨⟨a, b, xs, ys, rfl, rfl, ha, hb, p⟩, q⟩ := hq
  cases rx
  cases ry
  show wpAny (model X.prog X.w) X.A (richCompare .NotEq (.ref a) (.ref b)) (EP X pins σ Q) X.xe s
  obtain ⟨its, r, e, z⟩ := I.tuple ha
  obtain ⟨its2, r2, e2, z2⟩ := I.tuple hb
  have hsz : its.toArray.size = its2.toArray.size := by rw [List.size_toArray, List.size_toArray, ← r.length, ← r2.length]; exact p.1
  obtain ⟨⟨cls, dd, data, sl⟩, ho, hc, n, hd⟩ := id e
  obtain ⟨⟨cls2, dd2, data2, sl2⟩, ho2, hc2, n2, hd2⟩ := id e2
  simp only at hc hd hc2 hd2
  subst hc hd hc2 hd2
  refine wpAny_richCompare_same_room (op := .NotEq) ⟨_, ho, rfl⟩ ⟨_, ho2, rfl⟩ F.slot_tuple_ne (GQ.call_here F.slot_tuple_ne ⟨_, ho, rfl⟩ F.entry_tuple_ne (F.args_tuple_ne_2 _ _) ?_) hr.units0
  refine tuple_neG (R := wants (fun v s' => v ≠ .notImplemented ∧ EP X pins σ Q v s') X.xe) a b _ _ n n2 dd dd2 sl sl2 hsz (fun _ s' => LoopI X pins σ H s') (fun i h1 h2 s' q => turnG hD h ⟨hr, rfl⟩ p r r2 i h1 h2 s' q) (fun s' q' => ?_) ho ho2 ⟨H, I, Ext.rfl'⟩
  obtain ⟨H1, I1, e1⟩ := q'
  exact ⟨(fun z => nomatch z), .bl false, H1, I1, rfl, q H1 e1⟩
theorem op_eqTG (hD : Mon D) (h : EqG X n D) (hr : Room (n + 1) X.A) : OpR X (compareOp .Eq) (fun x y H Q => DTup X.K D x y H ∧ ∀ H', Same H H' → Q (.bl true) H') := op_eqG (rcG_tup hD h) hr
end
open PySem PySem.Spec PyProof.Rows L2 He
def CPowW (i j : Int) : Prop := 0 ≤ j ∧ (Builtin.Int.intBits i : Int) * j ≤ 2 ^ 27
theorem op_powW {X : Cx} : OpR X (binaryOp .Pow) (rI CPowW fun i j => .int (i ^ j.toNat)) := opI fun _ _ _ _ _ _ _ hc q => pow_int hc.1 hc.2 q
section
variable {X : Cx}
def rEqP (K : PySem.W.Frag) (neg : Bool) : R2 := fun x y H Q => ∃ d e, Dp K H x d ∧ Dp K H y e ∧ d.plain = true ∧ e.plain = true ∧ d.depth ≤ 64 ∧ Q (.bl (Bool.xor neg (PyData.eqv d e))) H
theorem op_eqP (hu : X.A.units + 64 < cLine) : OpR X (compareOp .Eq) (rEqP X.K false) := by
  intro pins s σ H x y v u Q I rx ry h
  obtain ⟨d, e, hd, he, pd, pe, hz, q⟩ := h
  obtain ⟨as, r1⟩ := Dp.reads I d x v hd rx
  obtain ⟨bs, r2⟩ := Dp.reads I e y u he ry
  refine SeqAt.eq_plain r1 r2 pd pe (Nat.lt_of_le_of_lt (Nat.add_le_add_left (Nat.le_trans (Nat.min_le_left _ _) hz) _) hu) ⟨.bl _, H, I, rfl, ?_⟩
  rw [Bool.false_xor] at q; exact q
theorem op_neP (hu : X.A.units + 64 < cLine) : OpR X (compareOp .NotEq) (rEqP X.K true) := by
  intro pins s σ H x y v u Q I rx ry h
  obtain ⟨d, e, hd, he, pd, pe, hz, q⟩ := h
  obtain ⟨as, r1⟩ := Dp.reads I d x v hd rx
  obtain ⟨bs, r2⟩ := Dp.reads I e y u he ry
  refine SeqAt.ne_plain r1 r2 pd pe (Nat.lt_of_le_of_lt (Nat.add_le_add_left (Nat.le_trans (Nat.min_le_left _ _) hz) _) hu) ⟨.bl _, H, I, rfl, ?_⟩
  rw [Bool.true_xor] at q; exact q
end
end Wl
set_option Elab.async false
set_option linter.all false
set_option maxRecDepth 100000
set_option maxHeartbeats 4000000
/-! Wl, part T: texts of whole numbers and of quotients, by their code points. -/
namespace Wl
open PySem SX TL NumText
/-- the signs of a whole number -/
def intL (n : Int) : List Nat := if n < 0 then 45 :: numL n.natAbs else numL n.natAbs
theorem str_S (n : Int) : Str.ofString (toString n) = S (intL n) := by
  unfold intL
  split
  · rename_i h
    have e : (0 : Int) - n = ((n.natAbs : Nat) : Int) := by omega
    rw [PyProof.Rows.toString_neg h, e]
    refine ext_tl ?_
    have z : ∀ s : String, tl (Str.ofString ("-" ++ s)) = 45 :: tl (Str.ofString s) := fun s => by
      rw [tl_ofString, tl_ofString, String.toList_append]; rfl
    rw [z, tl_num]
  · rename_i h
    have e : n = ((n.natAbs : Nat) : Int) := by omega
    conv => lhs; rw [e]
    exact num_S _
theorem intL_ne (n : Int) : intL n ≠ [] := by
  unfold intL; split
  · simp
  · exact numL_ne _
theorem no45 (m : Nat) : 45 ∉ numL m := numL_free (.inl (by decide))
theorem intL_free (n : Int) : 47 ∉ intL n := by
  unfold intL; split
  · intro h
    rcases List.mem_cons.mp h with h | h
    · cases h
    · exact numL_free (.inl (by decide)) h
  · exact numL_free (.inl (by decide))
theorem intL_inj {m n : Int} (h : intL m = intL n) : m = n := by
  unfold intL at h
  split at h <;> split at h
  · have := numL_inj (List.cons.inj h).2; omega
  · exact absurd (by rw [← h]; exact List.mem_cons_self) (no45 n.natAbs)
  · exact absurd (by rw [h]; exact List.mem_cons_self) (no45 m.natAbs)
  · have := numL_inj h; omega
/-- what stands behind a minus -/
def figs : List Nat → List Nat
  | 45 :: r => r
  | l => l
def digB (l : List Nat) : Bool := l.all fun c => decide (48 ≤ c) && decide (c ≤ 57)
theorem digB_ok {l : List Nat} (h : digB l = true) : AllDigits l := fun c hc => by
  have z := List.all_eq_true.mp h c hc
  rw [Bool.and_eq_true, decide_eq_true_eq, decide_eq_true_eq] at z
  exact z
theorem digB_of {l : List Nat} (h : AllDigits l) : digB l = true := List.all_eq_true.mpr fun c hc => by
  obtain ⟨a, b⟩ := h c hc
  simp [a, b]
/-- the value of a text of figures, a minus ahead or not -/
def valL : List Nat → Int
  | 45 :: r => -((digitsVal r : Nat) : Int)
  | l => ((digitsVal l : Nat) : Int)
theorem int_valL {w : List Nat} (hd : digB (figs w) = true) (hne : figs w ≠ []) (hl : w.length ≤ 640) : intText? (S w) = some (valL w) := by
  match w, hd, hne, hl with
  | 45 :: r, hd, hne, hl => exact intText_neg (x := S (45 :: r)) rfl (digB_ok hd) hne (by rw [S_len]; omega)
  | [], hd, hne, hl => exact absurd rfl hne
  | c :: r, hd, hne, hl =>
    by_cases hc : c = 45
    · subst hc; exact intText_neg (x := S (45 :: r)) rfl (digB_ok hd) hne (by rw [S_len]; omega)
    · have e1 : figs (c :: r) = c :: r := by
        unfold figs; split
        · rename_i h; exact absurd (List.cons.inj h).1 hc
        · rfl
      have e2 : valL (c :: r) = ((digitsVal (c :: r) : Nat) : Int) := by
        unfold valL; split
        · rename_i h; exact absurd (List.cons.inj h).1 hc
        · rfl
      rw [e1] at hd
      rw [e2]
      exact intText_digits (x := S (c :: r)) (digB_ok hd) (by simp) (by rw [S_len]; omega)
theorem digits_snoc (l : List Nat) (c : Nat) : digitsVal (l ++ [c]) = digitsVal l * 10 + (c - 48) := by
  unfold digitsVal; rw [List.foldl_append]; rfl
theorem val_pos {l : List Nat} (h : AllDigits l) {c : Nat} {r : List Nat} (e : l = c :: r) (hc : c ≠ 48) : 0 < digitsVal l := by
  subst e
  have : ∀ (r : List Nat) (a : Nat), 0 < a → 0 < r.foldl (fun acc c => acc * 10 + (c - 48)) a := by
    intro r
    induction r with
    | nil => intro a ha; exact ha
    | cons d r ih => intro a ha; exact ih _ (show 0 < a * 10 + (d - 48) by omega)
  have h1 := (h c List.mem_cons_self).1
  exact this r _ (show 0 < 0 * 10 + (c - 48) by omega)
/-- figures without a needless 0 are those of their value -/
theorem num_back0 : ∀ (n : Nat) (l : List Nat), l.length = n → AllDigits l → l ≠ [] → (l = [48] ∨ ∃ c r, l = c :: r ∧ c ≠ 48) → numL (digitsVal l) = l := by
  intro n
  induction n with
  | zero => intro l hl _ h _; exact absurd (List.length_eq_zero_iff.mp hl) h
  | succ n ih0 =>
    intro l hl hd hne hz
    obtain ⟨g, d, rfl⟩ : ∃ g d, l = g ++ [d] := ⟨l.dropLast, l.getLast hne, (List.dropLast_concat_getLast hne).symm⟩
    have ih := ih0 g (by simp at hl; exact hl)
    have hdd := hd d (by simp)
    by_cases hg : g = []
    · subst hg
      have e : digitsVal ([] ++ [d]) = d - 48 := by rw [digits_snoc]; show 0 * 10 + (d - 48) = _; omega
      rw [e, numL_lt (by omega)]
      have : 48 + (d - 48) = d := by omega
      rw [this]; rfl
    · have hz2 : ∃ c r, g = c :: r ∧ c ≠ 48 := by
        rcases hz with hz | ⟨c, r, e, hc⟩
        · have := congrArg List.length hz
          rw [List.length_append] at this
          have hlen : 0 < g.length := List.length_pos_iff.mpr hg
          simp at this
          exact absurd this hg
        · cases g with
          | nil => exact absurd rfl hg
          | cons c' r' =>
            refine ⟨c', r', rfl, ?_⟩
            have := (List.cons.inj e).1
            rw [this]; exact hc
      have hgd : AllDigits g := fun c hc => hd c (by simp [hc])
      obtain ⟨c, r, e, hc⟩ := hz2
      have hp := val_pos hgd e hc
      have e2 : digitsVal (g ++ [d]) = digitsVal g * 10 + (d - 48) := digits_snoc g d
      rw [e2, numL_step (by omega)]
      have e3 : (digitsVal g * 10 + (d - 48)) / 10 = digitsVal g := by omega
      have e4 : 48 + (digitsVal g * 10 + (d - 48)) % 10 = d := by omega
      rw [e3, e4, ih hgd hg (.inr ⟨c, r, e, hc⟩)]
theorem numL_head (n : Nat) : ∀ r, numL n = 48 :: r → n = 0 := by
  induction n using Nat.strongRecOn with
  | _ n ih =>
    intro r h
    by_cases hn : n < 10
    · rw [numL_lt hn] at h
      have := (List.cons.inj h).1
      omega
    · rw [numL_step (by omega)] at h
      cases e : numL (n / 10) with
      | nil => exact absurd e (numL_ne _)
      | cons c q =>
        rw [e] at h
        have hc : c = 48 := (List.cons.inj h).1
        subst hc
        have := ih (n / 10) (by omega) q e
        omega
theorem num_back (l : List Nat) (h1 : AllDigits l) (h2 : l ≠ []) (h3 : l = [48] ∨ ∃ c r, l = c :: r ∧ c ≠ 48) : numL (digitsVal l) = l := num_back0 _ l rfl h1 h2 h3
/-- a text is the text of its value, or of none -/
theorem canon {w : List Nat} (hd : digB (figs w) = true) (hne : figs w ≠ []) : intL (valL w) = w ↔ ¬ ((∃ r, figs w = 48 :: r) ∧ w ≠ [48]) := by
  have hD := digB_ok hd
  constructor
  · rintro e ⟨⟨r, hr⟩, hw⟩
    by_cases hneg : ∃ q, w = 45 :: q
    · obtain ⟨q, rfl⟩ := hneg
      have hq : q = 48 :: r := hr
      subst hq
      unfold intL at e
      split at e
      · have e2 := (List.cons.inj e).2
        have z := numL_head _ _ e2
        rename_i hlt
        omega
      · exact absurd (by rw [e]; exact List.mem_cons_self) (no45 _)
    · have e1 : figs w = w := by
        unfold figs; split
        · rename_i h; exact absurd ⟨_, rfl⟩ hneg
        · rfl
      rw [e1] at hr
      unfold intL at e
      split at e
      · rw [hr] at e; exact absurd (List.cons.inj e).1 (by decide)
      · rw [hr] at e
        have z := numL_head _ _ e
        rw [z, numL_lt (by decide)] at e
        exact hw (by rw [hr]; exact e.symm)
  · intro h
    by_cases hneg : ∃ q, w = 45 :: q
    · obtain ⟨q, rfl⟩ := hneg
      have hq : ∃ c r, q = c :: r ∧ c ≠ 48 := by
        cases q with
        | nil => exact absurd rfl hne
        | cons c r =>
          refine ⟨c, r, rfl, fun hc => h ⟨⟨r, by rw [← hc]; rfl⟩, by simp⟩⟩
      have hb := num_back q hD hne (.inr hq)
      obtain ⟨c, r, rfl, hc⟩ := hq
      have hp : 0 < digitsVal (c :: r) := val_pos (l := c :: r) hD rfl hc
      show intL (-((digitsVal (c :: r) : Nat) : Int)) = _
      unfold intL
      rw [if_pos (by omega)]
      have e : (-((digitsVal (c :: r) : Nat) : Int)).natAbs = digitsVal (c :: r) := by omega
      rw [e, hb]
    · have e1 : figs w = w := by
        unfold figs; split
        · rename_i h; exact absurd ⟨_, rfl⟩ hneg
        · rfl
      have e2 : valL w = ((digitsVal w : Nat) : Int) := by
        unfold valL; split
        · rename_i h; exact absurd ⟨_, rfl⟩ hneg
        · rfl
      rw [e1] at hD hne h
      rw [e2]
      unfold intL
      rw [if_neg (by omega)]
      refine num_back w hD hne ?_
      cases w with
      | nil => exact absurd rfl hne
      | cons c r =>
        by_cases hc : c = 48
        · subst hc
          by_cases hw : (48 :: r) = [48]
          · exact .inl hw
          · exact absurd ⟨⟨r, rfl⟩, hw⟩ h
        · exact .inr ⟨c, r, rfl, hc⟩
theorem figs_intL (n : Int) : figs (intL n) = numL n.natAbs := by
  unfold intL; split
  · rfl
  · unfold figs; split
    · rename_i h; exact absurd (by rw [h]; exact List.mem_cons_self) (no45 _)
    · rfl
theorem valL_intL (n : Int) : valL (intL n) = n := by
  have h := canon (w := intL n) (by rw [figs_intL]; exact digB_of (numL_digits _)) (by rw [figs_intL]; exact numL_ne _)
  unfold intL; split
  · show -((digitsVal (numL n.natAbs) : Nat) : Int) = n
    rw [numL_val]; omega
  · rename_i hn
    have e2 : valL (numL n.natAbs) = ((digitsVal (numL n.natAbs) : Nat) : Int) := by
      unfold valL; split
      · rename_i r h; exact absurd (by rw [h]; exact List.mem_cons_self) (no45 n.natAbs)
      · rfl
    rw [e2, numL_val]; omega
/-- the number of a word: that of which it is the text -/
def numOf (w : List Nat) : Option Int := if intL (valL w) = w then some (valL w) else none
theorem numOf_iff {w : List Nat} {n : Int} : numOf w = some n ↔ intL n = w := by
  unfold numOf
  constructor
  · intro h
    split at h
    · cases h; assumption
    · cases h
  · rintro rfl
    rw [valL_intL, if_pos rfl]
theorem numOf_none {w : List Nat} : numOf w = none ↔ ∀ n, intL n ≠ w := by
  constructor
  · intro h n e
    rw [(numOf_iff (n := n)).mpr e] at h; cases h
  · intro h
    cases e : numOf w with
    | none => rfl
    | some n => exact absurd (numOf_iff.mp e) (h n)
/-- .. which has figures alone -/
theorem numOf_odd {w : List Nat} (h : figs w = [] ∨ digB (figs w) = false) : numOf w = none := by
  rw [numOf_none]
  rintro n rfl
  rw [figs_intL] at h
  rcases h with h | h
  · exact numL_ne _ h
  · rw [digB_of (numL_digits _)] at h; cases h
/-! ### quotients -/
def ratL (p : Int × Int) : List Nat := if p.2 = 1 then intL p.1 else intL p.1 ++ 47 :: intL p.2
theorem joined : ∀ l : List Nat, ∃ ps, ps ≠ [] ∧ (∀ p ∈ ps, 47 ∉ p) ∧ joinL [47] ps = l
  | [] => ⟨[[]], by simp, by simp, rfl⟩
  | c :: r => by
    obtain ⟨ps, hne, hf, e⟩ := joined r
    by_cases hc : c = 47
    · subst hc
      refine ⟨[] :: ps, by simp, ?_, ?_⟩
      · intro p hp
        rcases List.mem_cons.mp hp with rfl | hp
        · simp
        · exact hf p hp
      · cases ps with
        | nil => exact absurd rfl hne
        | cons p ps => show [] ++ ([47] ++ joinL [47] (p :: ps)) = _; rw [e]; rfl
    · cases ps with
      | nil => exact absurd rfl hne
      | cons p ps =>
        refine ⟨(c :: p) :: ps, by simp, ?_, ?_⟩
        · intro q hq
          rcases List.mem_cons.mp hq with rfl | hq
          · intro hm
            rcases List.mem_cons.mp hm with hm | hm
            · exact hc hm.symm
            · exact hf p List.mem_cons_self hm
          · exact hf q (List.mem_cons_of_mem _ hq)
        · cases ps with
          | nil => show c :: p = c :: r; rw [← e]; rfl
          | cons q qs => show (c :: p) ++ ([47] ++ joinL [47] (q :: qs)) = c :: r; rw [← e]; rfl
theorem spl_of {ps : List (List Nat)} (hne : ps ≠ []) (hf : ∀ p ∈ ps, 47 ∉ p) : spl [47] 0 [] (joinL [47] ps) = ps := TL.spl_join hne hf
/-- the words of a quotient's text -/
theorem words_rat (p : Int × Int) : spl [47] 0 [] (ratL p) = if p.2 = 1 then [intL p.1] else [intL p.1, intL p.2] := by
  unfold ratL
  split
  · exact spl_of (ps := [intL p.1]) (by simp) (by intro q hq; rw [List.mem_singleton.mp hq]; exact intL_free _)
  · have z := spl_of (ps := [intL p.1, intL p.2]) (by simp) (by
      intro q hq
      rcases List.mem_cons.mp hq with rfl | hq
      · exact intL_free _
      · rw [List.mem_singleton.mp hq]; exact intL_free _)
    exact z
theorem ratL_inj {p q : Int × Int} (h : ratL p = ratL q) : p = q := by
  have hp := words_rat p
  have hq := words_rat q
  rw [h, hq] at hp
  split at hp <;> split at hp
  · rename_i h1 h2
    have e := intL_inj (List.cons.inj hp).1
    exact Prod.ext e.symm (h2.trans h1.symm)
  · exact absurd (congrArg List.length hp) (by simp)
  · exact absurd (congrArg List.length hp) (by simp)
  · have e1 := intL_inj (List.cons.inj hp).1
    have e2 := intL_inj (List.cons.inj (List.cons.inj hp).2).1
    exact Prod.ext e1.symm e2.symm
theorem val_lt (l : List Nat) (h : AllDigits l) : digitsVal l < 10 ^ l.length := by
  have : ∀ (l : List Nat) (a : Nat), AllDigits l → l.foldl (fun acc c => acc * 10 + (c - 48)) a < (a + 1) * 10 ^ l.length := by
    intro l
    induction l with
    | nil => intro a _; simp
    | cons c r ih =>
      intro a h
      have hc := h c List.mem_cons_self
      have z := ih (a * 10 + (c - 48)) (fun d hd => h d (List.mem_cons_of_mem _ hd))
      refine Nat.lt_of_lt_of_le z ?_
      rw [List.length_cons, Nat.pow_succ]
      have e1 : a * 10 + (c - 48) + 1 ≤ (a + 1) * 10 := by omega
      calc (a * 10 + (c - 48) + 1) * 10 ^ r.length ≤ ((a + 1) * 10) * 10 ^ r.length := Nat.mul_le_mul_right _ e1
        _ = (a + 1) * (10 ^ r.length * 10) := by rw [Nat.mul_assoc, Nat.mul_comm 10]
  have z := this l 0 h
  simpa [digitsVal] using z
/-- a word of at most a hundred signs -/
theorem valL_bd {w : List Nat} (hd : digB (figs w) = true) (hl : w.length ≤ 100) : Bd 400 (valL w) := by
  have hf : (figs w).length ≤ 100 := by
    unfold figs; split
    · simp at hl; omega
    · exact hl
  have z := val_lt _ (digB_ok hd)
  have e : (valL w).natAbs = digitsVal (figs w) := by
    unfold valL figs; split
    · simp
    · simp
  unfold Bd
  rw [e]
  refine Nat.lt_of_lt_of_le z (Nat.le_trans (Nat.pow_le_pow_right (by decide) hf) ?_)
  decide +kernel
theorem op_mulTxt {X : L2.Cx} : L2.OpR X (binaryOp .Mult) (fun x y H Q => ∃ a n, x = .str a ∧ y = .int n ∧ MulOk a n ∧ Q (.str (Txt.mul a n)) H) := by
  intro pins s σ H x y v u Q I rx ry h
  obtain ⟨a, n, rfl, rfl, hm, q⟩ := h
  obtain ⟨t, rfl⟩ := (show ∃ t, v = Value.str a t from rx)
  obtain ⟨t', rfl⟩ := (show ∃ t, u = Value.int n t from ry)
  exact SB.mul hm fun t2 k => ⟨.str _, H, I.tok k, ⟨t2, rfl⟩, q⟩
end Wl
set_option Elab.async false
set_option linter.all false
set_option maxRecDepth 100000
set_option maxHeartbeats 4000000
/-! The text of the law, by places; what the head tells. -/
namespace Lw
open PySem PySem.Spec PyProof.Rows L2 He Wl
def top (i : Nat) : Stmt := PySem.Challenge.pw_winoften_k03_texts_of_ratios.main.body.getD i (.Pass ⟨0, 0, 0, 0⟩)
abbrev s__wall : Stmt := top 0
abbrev s_InvalidNumber___init__ : Stmt := inClass (top 3) 0
abbrev s_InvalidText___init__ : Stmt := inClass (top 4) 0
abbrev s_ByZero___init__ : Stmt := inClass (top 5) 0
abbrev s_is_integer : Stmt := top 9
abbrev s_is_list : Stmt := top 10
abbrev s_common_divisor : Stmt := top 11
abbrev s_parts : Stmt := top 12
abbrev s_number_in : Stmt := top 13
abbrev s_Ratio___init__ : Stmt := inClass (top 14) 1
abbrev s_Ratio_top : Stmt := inClass (top 14) 2
abbrev s_Ratio_bottom : Stmt := inClass (top 14) 3
abbrev s_Ratio_read : Stmt := inClass (top 14) 4
abbrev s_Ratio___add__ : Stmt := inClass (top 14) 5
abbrev s_Ratio___sub__ : Stmt := inClass (top 14) 6
abbrev s_Ratio___mul__ : Stmt := inClass (top 14) 7
abbrev s_Ratio_over : Stmt := inClass (top 14) 8
abbrev s_Ratio___neg__ : Stmt := inClass (top 14) 9
abbrev s_Ratio___eq__ : Stmt := inClass (top 14) 10
abbrev s_Ratio_below : Stmt := inClass (top 14) 11
abbrev s_Ratio_text : Stmt := inClass (top 14) 12
abbrev s_is_number : Stmt := top 15
abbrev s_as_ratio : Stmt := top 16
abbrev s_need_numbers : Stmt := top 17
abbrev s_total : Stmt := top 18
abbrev s_least : Stmt := top 19
abbrev s_greatest : Stmt := top 20
abbrev s__law_cell : Stmt := top 22
abbrev s__law_bag : Stmt := top 23
abbrev s__law_take : Stmt := top 24
abbrev s__law_parted : Stmt := top 25
abbrev s__law_text : Stmt := top 26
abbrev s__law_number : Stmt := top 27
abbrev s__law_read : Stmt := top 28
abbrev s__law_drawn : Stmt := top 29
abbrev s__law_spoilt : Stmt := top 30
abbrev s__law_found : Stmt := top 31
abbrev s__law_refused : Stmt := top 32
abbrev s__law_odd_right : Stmt := top 33
abbrev s__law_grown : Stmt := top 34
abbrev s_law : Stmt := top 35
theorem sc__wall : FnScope ["k"] ["k"] (defScope s__wall) := ⟨rfl, rfl, rfl, by decide +kernel, rfl, by decide +kernel, by decide +kernel⟩
theorem sc_InvalidNumber___init__ : FnScope ["self", "value"] ["self", "value"] (defScope s_InvalidNumber___init__) := ⟨rfl, rfl, rfl, by decide +kernel, rfl, by decide +kernel, by decide +kernel⟩
theorem sc_InvalidText___init__ : FnScope ["self", "value"] ["self", "value"] (defScope s_InvalidText___init__) := ⟨rfl, rfl, rfl, by decide +kernel, rfl, by decide +kernel, by decide +kernel⟩
theorem sc_ByZero___init__ : FnScope ["self"] ["self"] (defScope s_ByZero___init__) := ⟨rfl, rfl, rfl, by decide +kernel, rfl, by decide +kernel, by decide +kernel⟩
theorem sc_is_integer : FnScope ["value"] ["value"] (defScope s_is_integer) := ⟨rfl, rfl, rfl, by decide +kernel, rfl, by decide +kernel, by decide +kernel⟩
theorem sc_is_list : FnScope ["value"] ["value"] (defScope s_is_list) := ⟨rfl, rfl, rfl, by decide +kernel, rfl, by decide +kernel, by decide +kernel⟩
theorem sc_common_divisor : FnScope ["one", "other"] ["one", "other"] (defScope s_common_divisor) := ⟨rfl, rfl, rfl, by decide +kernel, rfl, by decide +kernel, by decide +kernel⟩
theorem sc_parts : FnScope ["number"] ["number"] (defScope s_parts) := ⟨rfl, rfl, rfl, by decide +kernel, rfl, by decide +kernel, by decide +kernel⟩
theorem sc_number_in : FnScope ["text", "figures", "sign", "number"] ["text"] (defScope s_number_in) := ⟨rfl, rfl, rfl, by decide +kernel, rfl, by decide +kernel, by decide +kernel⟩
theorem sc_Ratio___init__ : FnScope ["self", "top", "bottom", "number", "piece"] ["self", "top", "bottom"] (defScope s_Ratio___init__) := ⟨rfl, rfl, rfl, by decide +kernel, rfl, by decide +kernel, by decide +kernel⟩
theorem sc_Ratio_top : FnScope ["self"] ["self"] (defScope s_Ratio_top) := ⟨rfl, rfl, rfl, by decide +kernel, rfl, by decide +kernel, by decide +kernel⟩
theorem sc_Ratio_bottom : FnScope ["self"] ["self"] (defScope s_Ratio_bottom) := ⟨rfl, rfl, rfl, by decide +kernel, rfl, by decide +kernel, by decide +kernel⟩
theorem sc_Ratio_read : FnScope ["cls", "text", "words", "numbers", "word", "number", "found"] ["cls", "text"] (defScope s_Ratio_read) := ⟨rfl, rfl, rfl, by decide +kernel, rfl, by decide +kernel, by decide +kernel⟩
theorem sc_Ratio___add__ : FnScope ["self", "other", "top", "bottom"] ["self", "other"] (defScope s_Ratio___add__) := ⟨rfl, rfl, rfl, by decide +kernel, rfl, by decide +kernel, by decide +kernel⟩
theorem sc_Ratio___sub__ : FnScope ["self", "other", "top", "bottom"] ["self", "other"] (defScope s_Ratio___sub__) := ⟨rfl, rfl, rfl, by decide +kernel, rfl, by decide +kernel, by decide +kernel⟩
theorem sc_Ratio___mul__ : FnScope ["self", "other", "top", "bottom"] ["self", "other"] (defScope s_Ratio___mul__) := ⟨rfl, rfl, rfl, by decide +kernel, rfl, by decide +kernel, by decide +kernel⟩
theorem sc_Ratio_over : FnScope ["self", "number"] ["self", "number"] (defScope s_Ratio_over) := ⟨rfl, rfl, rfl, by decide +kernel, rfl, by decide +kernel, by decide +kernel⟩
theorem sc_Ratio___neg__ : FnScope ["self"] ["self"] (defScope s_Ratio___neg__) := ⟨rfl, rfl, rfl, by decide +kernel, rfl, by decide +kernel, by decide +kernel⟩
theorem sc_Ratio___eq__ : FnScope ["self", "other"] ["self", "other"] (defScope s_Ratio___eq__) := ⟨rfl, rfl, rfl, by decide +kernel, rfl, by decide +kernel, by decide +kernel⟩
theorem sc_Ratio_below : FnScope ["self", "number", "top", "bottom"] ["self", "number"] (defScope s_Ratio_below) := ⟨rfl, rfl, rfl, by decide +kernel, rfl, by decide +kernel, by decide +kernel⟩
theorem sc_Ratio_text : FnScope ["self"] ["self"] (defScope s_Ratio_text) := ⟨rfl, rfl, rfl, by decide +kernel, rfl, by decide +kernel, by decide +kernel⟩
theorem sc_is_number : FnScope ["value"] ["value"] (defScope s_is_number) := ⟨rfl, rfl, rfl, by decide +kernel, rfl, by decide +kernel, by decide +kernel⟩
theorem sc_as_ratio : FnScope ["number", "top", "bottom"] ["number"] (defScope s_as_ratio) := ⟨rfl, rfl, rfl, by decide +kernel, rfl, by decide +kernel, by decide +kernel⟩
theorem sc_need_numbers : FnScope ["numbers", "fewest", "item"] ["numbers", "fewest"] (defScope s_need_numbers) := ⟨rfl, rfl, rfl, by decide +kernel, rfl, by decide +kernel, by decide +kernel⟩
theorem sc_total : FnScope ["numbers", "found", "number"] ["numbers"] (defScope s_total) := ⟨rfl, rfl, rfl, by decide +kernel, rfl, by decide +kernel, by decide +kernel⟩
theorem sc_least : FnScope ["numbers", "place", "index", "number"] ["numbers"] (defScope s_least) := ⟨rfl, rfl, rfl, by decide +kernel, rfl, by decide +kernel, by decide +kernel⟩
theorem sc_greatest : FnScope ["numbers", "place", "index", "number"] ["numbers"] (defScope s_greatest) := ⟨rfl, rfl, rfl, by decide +kernel, rfl, by decide +kernel, by decide +kernel⟩
theorem sc__law_cell : FnScope ["_law_script", "_law_index"] ["_law_script", "_law_index"] (defScope s__law_cell) := ⟨rfl, rfl, rfl, by decide +kernel, rfl, by decide +kernel, by decide +kernel⟩
theorem sc__law_bag : FnScope ["_law_cell_here"] ["_law_cell_here"] (defScope s__law_bag) := ⟨rfl, rfl, rfl, by decide +kernel, rfl, by decide +kernel, by decide +kernel⟩
theorem sc__law_take : FnScope ["_law_bag_here", "_law_many", "_law_digit", "_law_mixed"] ["_law_bag_here", "_law_many"] (defScope s__law_take) := ⟨rfl, rfl, rfl, by decide +kernel, rfl, by decide +kernel, by decide +kernel⟩
theorem sc__law_parted : FnScope ["_law_top", "_law_bottom", "_law_one", "_law_other"] ["_law_top", "_law_bottom"] (defScope s__law_parted) := ⟨rfl, rfl, rfl, by decide +kernel, rfl, by decide +kernel, by decide +kernel⟩
theorem sc__law_text : FnScope ["_law_x"] ["_law_x"] (defScope s__law_text) := ⟨rfl, rfl, rfl, by decide +kernel, rfl, by decide +kernel, by decide +kernel⟩
theorem sc__law_number : FnScope ["_law_line", "_law_figures", "_law_sign"] ["_law_line"] (defScope s__law_number) := ⟨rfl, rfl, rfl, by decide +kernel, rfl, by decide +kernel, by decide +kernel⟩
theorem sc__law_read : FnScope ["_law_line", "_law_words", "_law_numbers", "_law_word"] ["_law_line"] (defScope s__law_read) := ⟨rfl, rfl, rfl, by decide +kernel, rfl, by decide +kernel, by decide +kernel⟩
theorem sc__law_drawn : FnScope ["_law_bag_here", "_law_near", "_law_top", "_law_bottom"] ["_law_bag_here"] (defScope s__law_drawn) := ⟨rfl, rfl, rfl, by decide +kernel, rfl, by decide +kernel, by decide +kernel⟩
theorem sc__law_spoilt : FnScope ["_law_bag_here", "_law_x", "_law_line", "_law_place", "_law_sign", "_law_some"] ["_law_bag_here", "_law_x"] (defScope s__law_spoilt) := ⟨rfl, rfl, rfl, by decide +kernel, rfl, by decide +kernel, by decide +kernel⟩
theorem sc__law_found : FnScope ["_law_line", "_law_told", "e"] ["_law_line"] (defScope s__law_found) := ⟨rfl, rfl, rfl, by decide +kernel, rfl, by decide +kernel, by decide +kernel⟩
theorem sc__law_refused : FnScope ["_law_way", "_law_one", "_law_other", "e"] ["_law_way", "_law_one", "_law_other"] (defScope s__law_refused) := ⟨rfl, rfl, rfl, by decide +kernel, rfl, by decide +kernel, by decide +kernel⟩
theorem sc__law_odd_right : FnScope ["_law_bag_here", "_law_odd", "_law_good", "_law_one", "_law_other", "_law_due", "_law_way", "_law_some"] ["_law_bag_here"] (defScope s__law_odd_right) := ⟨rfl, rfl, rfl, by decide +kernel, rfl, by decide +kernel, by decide +kernel⟩
theorem sc__law_grown : FnScope ["_law_way", "_law_thing", "_law_found_here"] [] (defScope s__law_grown) := ⟨rfl, rfl, rfl, by decide +kernel, rfl, by decide +kernel, by decide +kernel⟩
theorem sc_law : FnScope ["_law_script", "_law_index", "_law_bag_here", "_law_lap", "_law_x", "_law_line", "_law_other", "_law_due", "_law_odd"] ["_law_script"] (defScope s_law) := ⟨rfl, rfl, rfl, by decide +kernel, rfl, by decide +kernel, by decide +kernel⟩
def d__wall : DefY := ⟨.glo "_wall", "_wall", "_wall", defArgs s__wall, defBody s__wall, defScope s__wall, []⟩
def d_InvalidNumber___init__ : DefY := ⟨.met "InvalidNumber" "__init__", "__init__", "InvalidNumber.__init__", defArgs s_InvalidNumber___init__, defBody s_InvalidNumber___init__, defScope s_InvalidNumber___init__, []⟩
def d_InvalidText___init__ : DefY := ⟨.met "InvalidText" "__init__", "__init__", "InvalidText.__init__", defArgs s_InvalidText___init__, defBody s_InvalidText___init__, defScope s_InvalidText___init__, []⟩
def d_ByZero___init__ : DefY := ⟨.met "ByZero" "__init__", "__init__", "ByZero.__init__", defArgs s_ByZero___init__, defBody s_ByZero___init__, defScope s_ByZero___init__, []⟩
def d_is_integer : DefY := ⟨.glo "is_integer", "is_integer", "is_integer", defArgs s_is_integer, defBody s_is_integer, defScope s_is_integer, []⟩
def d_is_list : DefY := ⟨.glo "is_list", "is_list", "is_list", defArgs s_is_list, defBody s_is_list, defScope s_is_list, []⟩
def d_common_divisor : DefY := ⟨.glo "common_divisor", "common_divisor", "common_divisor", defArgs s_common_divisor, defBody s_common_divisor, defScope s_common_divisor, []⟩
def d_parts : DefY := ⟨.glo "parts", "parts", "parts", defArgs s_parts, defBody s_parts, defScope s_parts, []⟩
def d_number_in : DefY := ⟨.glo "number_in", "number_in", "number_in", defArgs s_number_in, defBody s_number_in, defScope s_number_in, []⟩
def d_Ratio___init__ : DefY := ⟨.met "Ratio" "__init__", "__init__", "Ratio.__init__", defArgs s_Ratio___init__, defBody s_Ratio___init__, defScope s_Ratio___init__, [.int 1]⟩
def d_Ratio_top : DefY := ⟨.prp "Ratio" "top", "top", "Ratio.top", defArgs s_Ratio_top, defBody s_Ratio_top, defScope s_Ratio_top, []⟩
def d_Ratio_bottom : DefY := ⟨.prp "Ratio" "bottom", "bottom", "Ratio.bottom", defArgs s_Ratio_bottom, defBody s_Ratio_bottom, defScope s_Ratio_bottom, []⟩
def d_Ratio_read : DefY := ⟨.cme "Ratio" "read", "read", "Ratio.read", defArgs s_Ratio_read, defBody s_Ratio_read, defScope s_Ratio_read, []⟩
def d_Ratio___add__ : DefY := ⟨.met "Ratio" "__add__", "__add__", "Ratio.__add__", defArgs s_Ratio___add__, defBody s_Ratio___add__, defScope s_Ratio___add__, []⟩
def d_Ratio___sub__ : DefY := ⟨.met "Ratio" "__sub__", "__sub__", "Ratio.__sub__", defArgs s_Ratio___sub__, defBody s_Ratio___sub__, defScope s_Ratio___sub__, []⟩
def d_Ratio___mul__ : DefY := ⟨.met "Ratio" "__mul__", "__mul__", "Ratio.__mul__", defArgs s_Ratio___mul__, defBody s_Ratio___mul__, defScope s_Ratio___mul__, []⟩
def d_Ratio_over : DefY := ⟨.met "Ratio" "over", "over", "Ratio.over", defArgs s_Ratio_over, defBody s_Ratio_over, defScope s_Ratio_over, []⟩
def d_Ratio___neg__ : DefY := ⟨.met "Ratio" "__neg__", "__neg__", "Ratio.__neg__", defArgs s_Ratio___neg__, defBody s_Ratio___neg__, defScope s_Ratio___neg__, []⟩
def d_Ratio___eq__ : DefY := ⟨.met "Ratio" "__eq__", "__eq__", "Ratio.__eq__", defArgs s_Ratio___eq__, defBody s_Ratio___eq__, defScope s_Ratio___eq__, []⟩
def d_Ratio_below : DefY := ⟨.met "Ratio" "below", "below", "Ratio.below", defArgs s_Ratio_below, defBody s_Ratio_below, defScope s_Ratio_below, []⟩
def d_Ratio_text : DefY := ⟨.met "Ratio" "text", "text", "Ratio.text", defArgs s_Ratio_text, defBody s_Ratio_text, defScope s_Ratio_text, []⟩
def d_is_number : DefY := ⟨.glo "is_number", "is_number", "is_number", defArgs s_is_number, defBody s_is_number, defScope s_is_number, []⟩
def d_as_ratio : DefY := ⟨.glo "as_ratio", "as_ratio", "as_ratio", defArgs s_as_ratio, defBody s_as_ratio, defScope s_as_ratio, []⟩
def d_need_numbers : DefY := ⟨.glo "need_numbers", "need_numbers", "need_numbers", defArgs s_need_numbers, defBody s_need_numbers, defScope s_need_numbers, []⟩
def d_total : DefY := ⟨.glo "total", "total", "total", defArgs s_total, defBody s_total, defScope s_total, []⟩
def d_least : DefY := ⟨.glo "least", "least", "least", defArgs s_least, defBody s_least, defScope s_least, []⟩
def d_greatest : DefY := ⟨.glo "greatest", "greatest", "greatest", defArgs s_greatest, defBody s_greatest, defScope s_greatest, []⟩
def d__law_cell : DefY := ⟨.glo "_law_cell", "_law_cell", "_law_cell", defArgs s__law_cell, defBody s__law_cell, defScope s__law_cell, []⟩
def d__law_bag : DefY := ⟨.glo "_law_bag", "_law_bag", "_law_bag", defArgs s__law_bag, defBody s__law_bag, defScope s__law_bag, []⟩
def d__law_take : DefY := ⟨.glo "_law_take", "_law_take", "_law_take", defArgs s__law_take, defBody s__law_take, defScope s__law_take, []⟩
def d__law_parted : DefY := ⟨.glo "_law_parted", "_law_parted", "_law_parted", defArgs s__law_parted, defBody s__law_parted, defScope s__law_parted, []⟩
def d__law_text : DefY := ⟨.glo "_law_text", "_law_text", "_law_text", defArgs s__law_text, defBody s__law_text, defScope s__law_text, []⟩
def d__law_number : DefY := ⟨.glo "_law_number", "_law_number", "_law_number", defArgs s__law_number, defBody s__law_number, defScope s__law_number, []⟩
def d__law_read : DefY := ⟨.glo "_law_read", "_law_read", "_law_read", defArgs s__law_read, defBody s__law_read, defScope s__law_read, []⟩
def d__law_drawn : DefY := ⟨.glo "_law_drawn", "_law_drawn", "_law_drawn", defArgs s__law_drawn, defBody s__law_drawn, defScope s__law_drawn, []⟩
def d__law_spoilt : DefY := ⟨.glo "_law_spoilt", "_law_spoilt", "_law_spoilt", defArgs s__law_spoilt, defBody s__law_spoilt, defScope s__law_spoilt, []⟩
def d__law_found : DefY := ⟨.glo "_law_found", "_law_found", "_law_found", defArgs s__law_found, defBody s__law_found, defScope s__law_found, []⟩
def d__law_refused : DefY := ⟨.glo "_law_refused", "_law_refused", "_law_refused", defArgs s__law_refused, defBody s__law_refused, defScope s__law_refused, []⟩
def d__law_odd_right : DefY := ⟨.glo "_law_odd_right", "_law_odd_right", "_law_odd_right", defArgs s__law_odd_right, defBody s__law_odd_right, defScope s__law_odd_right, []⟩
def d__law_grown : DefY := ⟨.glo "_law_grown", "_law_grown", "_law_grown", defArgs s__law_grown, defBody s__law_grown, defScope s__law_grown, []⟩
def d_law : DefY := ⟨.glo "law", "law", "law", defArgs s_law, defBody s_law, defScope s_law, []⟩
def fn : List DefY := [d__wall, d_InvalidNumber___init__, d_InvalidText___init__, d_ByZero___init__, d_is_integer, d_is_list, d_common_divisor, d_parts, d_number_in, d_Ratio___init__, d_Ratio_top, d_Ratio_bottom, d_Ratio_read, d_Ratio___add__, d_Ratio___sub__, d_Ratio___mul__, d_Ratio_over, d_Ratio___neg__, d_Ratio___eq__, d_Ratio_below, d_Ratio_text, d_is_number, d_as_ratio, d_need_numbers, d_total, d_least, d_greatest, d__law_cell, d__law_bag, d__law_take, d__law_parted, d__law_text, d__law_number, d__law_read, d__law_drawn, d__law_spoilt, d__law_found, d__law_refused, d__law_odd_right, d__law_grown, d_law]
def fa : List He.Fa := [.glo "_wall", .glo "is_integer", .glo "is_list", .glo "common_divisor", .glo "parts", .glo "number_in", .glo "is_number", .glo "as_ratio", .glo "need_numbers", .glo "total", .glo "least", .glo "greatest", .glo "_law_cell", .glo "_law_bag", .glo "_law_take", .glo "_law_parted", .glo "_law_text", .glo "_law_number", .glo "_law_read", .glo "_law_drawn", .glo "_law_spoilt", .glo "_law_found", .glo "_law_refused", .glo "_law_odd_right", .glo "_law_grown", .glo "law", .glo "WinError", .glo "InvalidNumber", .glo "InvalidText", .glo "ByZero", .glo "Ratio", .free "abs", .free "any", .free "bool", .free "classmethod", .free "enumerate", .free "int", .free "isinstance", .free "len", .free "list", .free "max", .free "min", .free "property", .free "range", .free "str", .free "tuple", .int "MOST_SIGNS" 100, .str "DIGITS" "0123456789"]
/-- the types that are met -/
def ordT : List String := ["NoneType", "bool", "int", "str", "list", "tuple", "dict"]
def exR (K : PySem.W.Frag) (R : Addr) : Bool := sclsB K R && (sisiB K R && (slotB K R "up" 1 && (slotB K R "down" 0 && (propB K R "top" && (propB K R "bottom" && (mkB K R && (methB K R "over" && (methB K R "below" && (methB K R "__eq__" && (methB K R "__neg__" &&
  (ownOpB K R "add" && (ownOpB K R "sub" && (ownOpB K R "mul" && (eqO (PySem.W.findIn K (.ref R) "__ne__") (some (some (.builtin "object.__ne__"))) &&
  (dB (PySem.W.kitOne K (.ref R) (.type "int")) (some false) && (dB (PySem.W.kitOne K (.ref R) (.type "bool")) (some false) && (dB (PySem.W.kitOne K (.ref R) (.type "list")) (some false) && (dB (PySem.W.kitOne K (.ref R) (.type "tuple")) (some false) &&
  (ordT.all fun n => dB (PySem.W.kitOne K (.type n) (.ref R)) (some false) && dB (PySem.W.subIn K (.type n) (.ref R)) (some false))))))))))))))))))))
def exE1 (K : PySem.W.Frag) (C : Addr) (f : Str) : Bool := oexB K C && (ownInitB K C && eqO (PySem.W.findIn K (.ref C) f) (some none))
def exE0 (K : PySem.W.Frag) (C : Addr) : Bool := oexB K C && ownInitB K C
def cmB (o : Option PySem.W.CFound) (p R : Addr) : Bool := match o with
  | some (.get (.builtin n) (.ref q) .none (.ref C)) => n == "classmethod.__get__" && (q == p && C == R)
  | _ => false
theorem cmB_ok {o : Option PySem.W.CFound} {p R : Addr} (h : cmB o p R = true) : o = some (.get (.builtin "classmethod.__get__") (.ref p) .none (.ref R)) := by
  unfold cmB at h
  split at h
  · obtain ⟨h1, h⟩ := ba h
    obtain ⟨h2, h3⟩ := ba h
    rw [eq_of_beq h1, eq_of_beq h2, eq_of_beq h3]
  · cases h
def exC (K : PySem.W.Frag) (R : Addr) : Bool := PySem.W.readsIn K R (.type "type") && (eqO (PySem.W.specialIn K (.ref R) "__getattribute__") (some (some (.builtin "type.__getattribute__"))) &&
  (cmB (PySem.W.findCls K (.ref R) (.type "type") "read") (ma K R "read") R && ((match PySem.W.recIn K (ma K R "read") "classmethod" with | some (.ref _ :: _) => true | _ => false) && (PySem.W.fnIn K (recFn K (ma K R "read") "classmethod") && methB K R "text"))))
def exS (K : PySem.W.Frag) (R : Addr) : Bool := dB (PySem.W.kitOne K (.ref R) (.type "str")) (some false)
def exm (K : PySem.W.Frag) (c d : Str) (b : Bool) : Bool := dB (PySem.W.exmOne K (.ref (ga K c)) (.ref (ga K d))) (some b)
def exB (K : PySem.W.Frag) : Bool := exR K (ga K "Ratio") && (baseInitB K (ga K "WinError") && (exE1 K (ga K "InvalidNumber") "value" && (exE0 K (ga K "ByZero") && (exE1 K (ga K "InvalidText") "value" && (exC K (ga K "Ratio") && (xfB K (ga K "InvalidNumber") && (xfB K (ga K "InvalidText") &&
  (exm K "InvalidText" "InvalidText" true && (exm K "InvalidNumber" "InvalidNumber" true && (exm K "ByZero" "InvalidNumber" false && (exm K "ByZero" "ByZero" true && exS K (ga K "Ratio"))))))))))))
abbrev TX (K : PySem.W.Frag) (mg : Str → Option Value) : Prop := TY fa fn exB K mg
/-- what is known of Ratio -/
structure RF (K : PySem.W.Frag) (R : Addr) : Prop where
  cl : SlX.SCls K R
  isi : SlX.SIsi K R
  up : SlX.Slot1 K R "up" (ma K R "up") 1
  dn : SlX.Slot1 K R "down" (ma K R "down") 0
  ptop : PropSl K R "top" (ma K R "top") (recFn K (ma K R "top") "property")
  pbot : PropSl K R "bottom" (ma K R "bottom") (recFn K (ma K R "bottom") "property")
  make : Mk K R (ma K R "__init__")
  over : Meth K R "over" (ma K R "over")
  below : Meth K R "below" (ma K R "below")
  eq : Meth K R "__eq__" (ma K R "__eq__")
  neg : Meth K R "__neg__" (ma K R "__neg__")
  add : OwnOp K R "add" (ma K R "__add__")
  sub : OwnOp K R "sub" (ma K R "__sub__")
  mul : OwnOp K R "mul" (ma K R "__mul__")
  ne : PySem.W.findIn K (.ref R) "__ne__" = some (some (.builtin "object.__ne__"))
  kint : PySem.W.kitOne K (.ref R) (.type "int") = some false
  kbool : PySem.W.kitOne K (.ref R) (.type "bool") = some false
  klist : PySem.W.kitOne K (.ref R) (.type "list") = some false
  ktup : PySem.W.kitOne K (.ref R) (.type "tuple") = some false
  kty : ∀ n ∈ ordT, PySem.W.kitOne K (.type n) (.ref R) = some false ∧ PySem.W.subIn K (.type n) (.ref R) = some false
theorem rf_of {K : PySem.W.Frag} {R : Addr} (h : exR K R = true) : RF K R := by
  obtain ⟨h1, h⟩ := ba h
  obtain ⟨h2, h⟩ := ba h
  obtain ⟨h3, h⟩ := ba h
  obtain ⟨h4, h⟩ := ba h
  obtain ⟨h5, h⟩ := ba h
  obtain ⟨h6, h⟩ := ba h
  obtain ⟨h7, h⟩ := ba h
  obtain ⟨h8, h⟩ := ba h
  obtain ⟨h9, h⟩ := ba h
  obtain ⟨h10, h⟩ := ba h
  obtain ⟨h11, h⟩ := ba h
  obtain ⟨h12, h⟩ := ba h
  obtain ⟨h13, h⟩ := ba h
  obtain ⟨h14, h⟩ := ba h
  obtain ⟨h15, h⟩ := ba h
  obtain ⟨h16, h⟩ := ba h
  obtain ⟨h17, h⟩ := ba h
  obtain ⟨h18, h⟩ := ba h
  obtain ⟨h19, h20⟩ := ba h
  refine ⟨sclsB_ok h1, sisiB_ok h2, slotB_ok h3, slotB_ok h4, propB_ok h5, propB_ok h6, mkB_ok h7, methB_ok h8, methB_ok h9, methB_ok h10, methB_ok h11, ownOpB_ok h12, ownOpB_ok h13, ownOpB_ok h14, eqO_ok h15, dB_ok h16, dB_ok h17, dB_ok h18, dB_ok h19, fun n hn => ?_⟩
  obtain ⟨a, b⟩ := ba (List.all_eq_true.mp h20 n hn)
  exact ⟨dB_ok a, dB_ok b⟩
structure EF1 (K : PySem.W.Frag) (C : Addr) (f : Str) : Prop where
  o : OexC K C
  i : OwnInit K C (ma K C "__init__")
  n : PySem.W.findIn K (.ref C) f = some none
structure EF0 (K : PySem.W.Frag) (C : Addr) : Prop where
  o : OexC K C
  i : OwnInit K C (ma K C "__init__")
section
variable {K : PySem.W.Frag} {mg : Str → Option Value}
theorem x_r (T : TX K mg) : RF K (ga K "Ratio") := rf_of (ba T.x).1
theorem x_b (T : TX K mg) : BaseInit K (ga K "WinError") := baseInitB_ok (ba (ba T.x).2).1
theorem x_in (T : TX K mg) : EF1 K (ga K "InvalidNumber") "value" := by
  obtain ⟨h1, h⟩ := ba (ba (ba (ba T.x).2).2).1
  obtain ⟨h2, h3⟩ := ba h
  exact ⟨oexB_ok h1, ownInitB_ok h2, eqO_ok h3⟩
theorem x_z (T : TX K mg) : EF0 K (ga K "ByZero") := by
  obtain ⟨h1, h2⟩ := ba (ba (ba (ba (ba T.x).2).2).2).1
  exact ⟨oexB_ok h1, ownInitB_ok h2⟩
theorem x_it (T : TX K mg) : EF1 K (ga K "InvalidText") "value" := by
  obtain ⟨h1, h⟩ := ba (ba (ba (ba (ba (ba T.x).2).2).2).2).1
  obtain ⟨h2, h3⟩ := ba h
  exact ⟨oexB_ok h1, ownInitB_ok h2, eqO_ok h3⟩
/-- Ratio.read -/
structure CF (K : PySem.W.Frag) (R : Addr) : Prop where
  rd : ClX.CRead K R (.type "type")
  cm : ClX.CMet K R (.type "type") "read" (ma K R "read") (recFn K (ma K R "read") "classmethod")
  tx : Meth K R "text" (ma K R "text")
theorem x_c (T : TX K mg) : CF K (ga K "Ratio") := by
  obtain ⟨h1, h⟩ := ba (ba (ba (ba (ba (ba (ba T.x).2).2).2).2).2).1
  obtain ⟨h2, h⟩ := ba h
  obtain ⟨h3, h⟩ := ba h
  obtain ⟨h4, h⟩ := ba h
  obtain ⟨h5, h6⟩ := ba h
  refine ⟨⟨h1, eqO_ok h2⟩, ⟨cmB_ok h3, ?_, h5⟩, methB_ok h6⟩
  unfold recFn
  split at h4
  · rename_i g r e
    exact ⟨r, by rw [e]⟩
  · cases h4
theorem x_xn (T : TX K mg) : XfC K (ga K "InvalidNumber") := xfB_ok (ba (ba (ba (ba (ba (ba (ba T.x).2).2).2).2).2).2).1
theorem x_xt (T : TX K mg) : XfC K (ga K "InvalidText") := xfB_ok (ba (ba (ba (ba (ba (ba (ba (ba T.x).2).2).2).2).2).2).2).1
theorem x_m (T : TX K mg) : PySem.W.exmOne K (.ref (ga K "InvalidText")) (.ref (ga K "InvalidText")) = some true ∧ PySem.W.exmOne K (.ref (ga K "InvalidNumber")) (.ref (ga K "InvalidNumber")) = some true ∧
    PySem.W.exmOne K (.ref (ga K "ByZero")) (.ref (ga K "InvalidNumber")) = some false ∧ PySem.W.exmOne K (.ref (ga K "ByZero")) (.ref (ga K "ByZero")) = some true ∧ PySem.W.kitOne K (.ref (ga K "Ratio")) (.type "str") = some false := by
  obtain ⟨h1, h⟩ := ba (ba (ba (ba (ba (ba (ba (ba (ba T.x).2).2).2).2).2).2).2).2
  obtain ⟨h2, h⟩ := ba h
  obtain ⟨h3, h⟩ := ba h
  obtain ⟨h4, h5⟩ := ba h
  exact ⟨dB_ok h1, dB_ok h2, dB_ok h3, dB_ok h4, dB_ok h5⟩
end
end Lw
set_option Elab.async false
set_option linter.all false
set_option maxRecDepth 100000
set_option maxHeartbeats 0
/-! The head: the top's run and what it leaves. -/
namespace Lw
open PySem PySem.Spec PyProof.Rows L2 He Wl
abbrev R : PySem.W.OpenRow := PySem.W.OpenLaw.row PySem.Challenge.rw_winoften_k03_texts_of_ratios
abbrev hk : PySem.W.Hook := hookY 7 fa fn exB
def ob (s : PySem.W.SharedT) : He.AlD := obsYG 7 fa fn exB (HandSHeadRun.getT s)
theorem ob_eq (s : PySem.W.SharedT) : ob s = hk.obs s.abs := obsYG_eq (HandSHeadRun.getT_eq s)
def names : List PySem.Str := (["_wall", "__name__", "WinError", "InvalidNumber", "InvalidText", "ByZero", "MOST_SIGNS", "DIGITS", "is_integer", "is_list", "common_divisor", "parts", "number_in", "Ratio", "is_number", "as_ratio", "need_numbers", "total", "least", "greatest", "_law_cell", "_law_bag", "_law_take", "_law_parted", "_law_text", "_law_number", "_law_read", "_law_drawn", "_law_spoilt", "_law_found"] : List PySem.Str) ++ (["_law_refused", "_law_odd_right", "_law_grown"] : List PySem.Str)
theorem run (w : World) : HandSHeadRun.RunEq R (PySem.W.view R.prog [35]) hk ob 4000 names w := by
  intro os
  kernel_rfl
end Lw
set_option Elab.async false
set_option linter.all false
set_option maxRecDepth 100000
set_option maxHeartbeats 4000000
/-! The defs of the program: exceptions, ratios. -/
namespace Lw
open PySem PySem.Spec PyProof.Rows L2 He Wl
section
variable {P : Program} {w : World} {K : PySem.W.Frag} {mg : Str → Option Value} {base : Heap}
/-! ### exceptions -/
theorem ok_InvalidNumber___init__ (T : TX K mg) : FnR P w K mg base (L2.CX P w) 1 (ma K (ga K "InvalidNumber") "__init__") (spExc1 (ga K "InvalidNumber") "value") := by
  refine fnR_of (T.d 1) sc_InvalidNumber___init__ (fun vs H Q E h => ?_) (fun _ _ _ _ _ _ us hl => match us, hl with | [_, _], _ => rfl) (fun cdv A outer s H vs Q E hr h => ?_)
  · obtain ⟨a, v, rfl, _⟩ := h; rfl
  · obtain ⟨a, v, rfl, ha, k⟩ := h
    refine ⟨_, pss_cons (ps_expr (pe_clsinit (x_b T) (by rfl) (T.g 26) (pa_cons (pv 0) (pa_cons pe_str pa_nil)))) (pss_one (ps_ost (pv 0) (pv 1))), ?_⟩
    refine ⟨_, rfl, a, ga K "InvalidNumber", _, rfl, (by decide), (x_in T).o, ha, ?_⟩
    exact ⟨_, rfl, _, rfl, a, _, rfl, (x_in T).o, (x_in T).n, .inl ⟨ha, fun d hd hda => k d hd hda⟩⟩
theorem ok_ByZero___init__ (T : TX K mg) : FnR P w K mg base (L2.CX P w) 1 (ma K (ga K "ByZero") "__init__") (spExc0 (ga K "ByZero")) := by
  refine fnR_of (T.d 3) sc_ByZero___init__ (fun vs H Q E h => ?_) (fun _ _ _ _ _ _ us hl => match us, hl with | [_], _ => rfl) (fun cdv A outer s H vs Q E hr h => ?_)
  · obtain ⟨a, rfl, _⟩ := h; rfl
  · obtain ⟨a, rfl, ha, k⟩ := h
    refine ⟨_, pss_one (ps_expr (pe_clsinit (x_b T) (by rfl) (T.g 26) (pa_cons (pv 0) (pa_cons pe_str pa_nil)))), ?_⟩
    exact ⟨_, rfl, a, ga K "ByZero", _, rfl, (by decide), (x_z T).o, ha, k⟩
/-! ### kinds of values -/
def OkT (R : Addr) (t : Value) : Prop := t = .ref R ∨ ∃ n ∈ ordT, t = .type n
theorem k_int (T : TX K mg) {t : Value} (h : OkT (ga K "Ratio") t) : PySem.W.kitOne K t (.type "int") = some (decide (t = .type "int") || decide (t = .type "bool")) := by
  rcases h with rfl | ⟨n, hn, rfl⟩
  · exact (x_r T).kint
  · simp only [ordT, List.mem_cons, List.not_mem_nil, or_false] at hn
    rcases hn with rfl | rfl | rfl | rfl | rfl | rfl | rfl <;> exact kit_ty (by decide +kernel)
theorem k_bool (T : TX K mg) {t : Value} (h : OkT (ga K "Ratio") t) : PySem.W.kitOne K t (.type "bool") = some (decide (t = .type "bool")) := by
  rcases h with rfl | ⟨n, hn, rfl⟩
  · exact (x_r T).kbool
  · simp only [ordT, List.mem_cons, List.not_mem_nil, or_false] at hn
    rcases hn with rfl | rfl | rfl | rfl | rfl | rfl | rfl <;> exact kit_ty (by decide +kernel)
theorem k_seq (T : TX K mg) {t : Value} (h : OkT (ga K "Ratio") t) : PySem.W.kitAny K t [.type "list", .type "tuple"] = some (decide (t = .type "list") || decide (t = .type "tuple")) := by
  rcases h with rfl | ⟨n, hn, rfl⟩
  · exact kitAny_cons (x_r T).klist (fun _ => kitAny_cons (x_r T).ktup (fun _ => kitAny_nil) (fun z => nomatch z)) (fun z => nomatch z)
  · simp only [ordT, List.mem_cons, List.not_mem_nil, or_false] at hn
    rcases hn with rfl | rfl | rfl | rfl | rfl | rfl | rfl <;>
      first
      | exact kitAny_cons (b := false) (kit_ty (by decide +kernel)) (fun _ => kitAny_cons (b := false) (kit_ty (by decide +kernel)) (fun _ => kitAny_nil) (fun z => nomatch z)) (fun z => nomatch z)
      | exact kitAny_cons (b := true) (kit_ty (by decide +kernel)) (fun z => nomatch z) (fun _ => rfl)
      | exact kitAny_cons (b := false) (kit_ty (by decide +kernel)) (fun _ => kitAny_cons (b := true) (kit_ty (by decide +kernel)) (fun z => nomatch z) (fun _ => rfl)) (fun z => nomatch z)
theorem k_rat (T : TX K mg) {t : Value} (h : OkT (ga K "Ratio") t) : PySem.W.kitOne K t (.ref (ga K "Ratio")) = some (decide (t = .ref (ga K "Ratio"))) := by
  rcases h with rfl | ⟨n, hn, rfl⟩
  · unfold PySem.W.kitOne; simp
  · rw [((x_r T).kty n hn).1]; simp
/-- is_integer: by the type -/
def spIsInt (K : PySem.W.Frag) : Sp := fun vs H Q _ => ∃ v t, vs = [v] ∧ TyY K (ga K "Ratio") v H t ∧ OkT (ga K "Ratio") t ∧ Q (.bl (decide (t = .type "int"))) H
theorem ok_is_integer (T : TX K mg) : FnR P w K mg base (L2.CX P w) 1 (ga K "is_integer") (spIsInt K) := by
  refine fnR_of (T.d 4) sc_is_integer (fun vs H Q E h => ?_) (fun _ _ _ _ _ _ us hl => match us, hl with | [_], _ => rfl) (fun cdv A outer s H vs Q E hr h => ?_)
  · obtain ⟨v, t, rfl, _⟩ := h; rfl
  · obtain ⟨v, t, rfl, ht, ho, k⟩ := h
    refine ⟨_, pss_one (ps_ret (pe_and (pe_callB (call_isiY (x_r T).cl (x_r T).isi) (by rfl) (T.f 37) (by decide +kernel) (pa_cons (pv 0) (pa_cons (pe_bltn (v := .ty "int") (u := .type "int") (by rfl) (T.f 36) (by decide +kernel) rfl) pa_nil))) (pe_one (pe_not (pe_callB (call_isiY (x_r T).cl (x_r T).isi) (by rfl) (T.f 37) (by decide +kernel) (pa_cons (pv 0) (pa_cons (pe_bltn (v := .ty "bool") (u := .type "bool") (by rfl) (T.f 33) (by decide +kernel) rfl) pa_nil))))))), ?_⟩
    refine ⟨_, rfl, v, .ty "int", t, .type "int", _, rfl, .ty _, ht, k_int T ho, _, rfl, ?_⟩
    refine ite2 (fun hc => ?_) (fun hc => ?_)
    · refine ⟨_, rfl, v, .ty "bool", t, .type "bool", _, rfl, .ty _, ht, k_bool T ho, _, rfl, ?_⟩
      have e : (!decide (t = Value.type "bool")) = decide (t = Value.type "int") := by
        rw [Bool.or_eq_true, decide_eq_true_eq, decide_eq_true_eq] at hc
        rcases hc with rfl | rfl <;> decide +kernel
      rw [e]; exact k
    · have e : decide (t = Value.type "int") = false := by
        cases q : decide (t = Value.type "int") with
        | false => rfl
        | true => rw [q] at hc; exact absurd rfl hc
      rw [e] at k; exact k
/-- is_list -/
def spIsList (K : PySem.W.Frag) : Sp := fun vs H Q _ => ∃ v t, vs = [v] ∧ TyY K (ga K "Ratio") v H t ∧ OkT (ga K "Ratio") t ∧ ∀ H', Same H H' → Q (.bl (decide (t = .type "list") || decide (t = .type "tuple"))) H'
theorem ok_is_list (T : TX K mg) : FnR P w K mg base (L2.CX P w) 1 (ga K "is_list") (spIsList K) := by
  refine fnR_of (T.d 5) sc_is_list (fun vs H Q E h => ?_) (fun _ _ _ _ _ _ us hl => match us, hl with | [_], _ => rfl) (fun cdv A outer s H vs Q E hr h => ?_)
  · obtain ⟨v, t, rfl, _⟩ := h; rfl
  · obtain ⟨v, t, rfl, ht, ho, k⟩ := h
    refine ⟨_, pss_one (ps_ret (pe_callB (call_isiTY (x_r T).cl (x_r T).isi) (by rfl) (T.f 37) (by decide +kernel) (pa_cons (pv 0) (pa_cons (pe_tup (pa_cons (pe_bltn (v := .ty "list") (u := .type "list") (by rfl) (T.f 39) (by decide +kernel) rfl) (pa_cons (pe_bltn (v := .ty "tuple") (u := .type "tuple") (by rfl) (T.f 45) (by decide +kernel) rfl) pa_nil))) pa_nil)))), ?_⟩
    refine ⟨_, rfl, by decide, grow fun p H1 s1 np hp => ?_⟩
    exact ⟨v, p, _, t, [.type "list", .type "tuple"], _, rfl, hp, .cons (.ty _) (.cons (.ty _) .nil), tyY_same s1 ht, k_seq T ho, k H1 s1⟩
/-- common_divisor: the greatest one -/
def spGcd : Sp := fun vs H Q _ => ∃ a b : Int, vs = [.int a, .int b] ∧ Q (.int (Int.gcd a b)) H
theorem ok_common_divisor (T : TX K mg) : FnR P w K mg base (L2.CX P w) 1 (ga K "common_divisor") spGcd := by
  refine fnR_of (T.d 6) sc_common_divisor (fun vs H Q E h => ?_) (fun _ _ _ _ _ _ us hl => match us, hl with | [_, _], _ => rfl) (fun cdv A outer s H vs Q E hr h => ?_)
  · obtain ⟨a, b, rfl, _⟩ := h; rfl
  · obtain ⟨a, b, rfl, k⟩ := h
    refine ⟨_, pss_cons (ps_while (passes_of rfl) (pt_cmpR op_ne (pv 1) pe_int (nomark _)) (pss_one (ps_par (by rfl) sc_common_divisor.nd (i := 0) (j := 1) rfl rfl (by decide) rfl rfl (pa_cons (pv 1) (pa_cons (pe_op op_modN (pv 0) (pv 1)) pa_nil)) (by rfl)))) (pss_one (ps_ret (pe_callB call_abs (by rfl) (T.f 31) (by decide +kernel) (pa_cons (pv 0) pa_nil)))), ?_⟩
    refine ⟨fun m σ H' => H' = H ∧ ∃ x y : Int, σ = [some (.int x), some (.int y)] ∧ m = y.natAbs ∧ Int.gcd x y = Int.gcd a b, ⟨_, rfl, a, b, rfl, rfl, rfl⟩, ?_⟩
    rintro m σ H' ⟨rfl, x, y, rfl, rfl, hg⟩
    refine ⟨_, rfl, rfl, _, rfl, ?_⟩
    refine ite2 (fun hc => ?_) (fun hc => ?_)
    · have hy : y ≠ 0 := by intro z; subst z; simp at hc
      refine ⟨fun σ' H'' => H'' = H' ∧ σ' = [some (.int y), some (.int (x.fmod y))], ?_, ?_⟩
      · rintro σ' H'' ⟨rfl, rfl⟩
        exact ⟨(x.fmod y).natAbs, fmod_natAbs_lt x hy, rfl, y, _, rfl, rfl, (gcd_fmod x y).trans hg⟩
      · exact ⟨_, rfl, _, rfl, _, rfl, _, _, rfl, rfl, hy, _, _, rfl, rfl, rfl⟩
    · have hy : y = 0 := by
        by_cases z : y = 0
        · exact z
        · exact absurd (by simp [z]) hc
      subst hy
      refine ⟨_, rfl, x, rfl, ?_⟩
      have e : (if x < 0 then -x else x) = ((Int.gcd a b : Nat) : Int) := by
        rw [← hg, Int.gcd_zero_right]
        split <;> omega
      rw [e]; exact k
end
end Lw
set_option Elab.async false
set_option linter.all false
set_option maxRecDepth 100000
set_option maxHeartbeats 4000000
/-! The class Ratio. -/
namespace Lw
open PySem PySem.Spec PyProof.Rows L2 He Wl
/-- a Ratio p / q stands at a -/
def RatAt (R : Addr) (H : Hp) (a : Addr) (p q : Int) : Prop := ∃ dx, SlX.Slt H a R dx [some (.int q), some (.int p)]
/-- v is the number p / q -/
def NumAt (R : Addr) (H : Hp) (v : V) (p q : Int) : Prop := (v = .int p ∧ q = 1) ∨ ∃ a, v = .ref a ∧ RatAt R H a p q
theorem RatAt.same {R : Addr} {H H' : Hp} {a : Addr} {p q : Int} (s : Same H H') (h : RatAt R H a p q) : RatAt R H' a p q := by
  obtain ⟨dx, h⟩ := h
  exact ⟨dx, slt_same s h⟩
theorem NumAt.same {R : Addr} {H H' : Hp} {v : V} {p q : Int} (s : Same H H') (h : NumAt R H v p q) : NumAt R H' v p q := by
  rcases h with h | ⟨a, e, h⟩
  · exact .inl h
  · exact .inr ⟨a, e, h.same s⟩
theorem NumAt.of {R : Addr} {H : Hp} {a : Addr} {p q : Int} (h : RatAt R H a p q) : NumAt R H (.ref a) p q := .inr ⟨a, rfl, h⟩
theorem NumAt.int {R : Addr} {H : Hp} (p : Int) : NumAt R H (.int p) p 1 := .inl ⟨rfl, rfl⟩
/-- the type of a number -/
theorem NumAt.ty {K : PySem.W.Frag} {R : Addr} {H : Hp} {v : V} {p q : Int} (h : NumAt R H v p q) : ∃ t, TyY K R v H t ∧ OkT R t ∧ (t = .type "int" ∨ t = .ref R) ∧ (t = .type "int" → v = .int p ∧ q = 1) ∧ (t = .ref R → ∃ a, v = .ref a ∧ RatAt R H a p q) := by
  rcases h with ⟨rfl, rfl⟩ | ⟨a, rfl, dx, h⟩
  · exact ⟨.type "int", .inl (.base (.int p)), .inr ⟨"int", by decide, rfl⟩, .inl rfl, (fun _ => ⟨rfl, rfl⟩), (fun z => nomatch z)⟩
  · exact ⟨.ref R, .inr ⟨rfl, a, dx, _, rfl, h⟩, .inl rfl, .inr rfl, (fun z => nomatch z), (fun _ => ⟨a, rfl, dx, h⟩)⟩
theorem NumAt.like {R : Addr} {H : Hp} {v : V} {p q : Int} (h : NumAt R H v p q) : NumLike R v H := by
  rcases h with ⟨rfl, rfl⟩ | ⟨a, rfl, dx, h⟩
  · exact .inl ⟨p, rfl⟩
  · exact .inr ⟨a, dx, _, rfl, h⟩
theorem tyY_int {K : PySem.W.Frag} {R : Addr} {H : Hp} {v : V} (h : TyY K R v H (.type "int")) : ∃ p, v = .int p := by
  rcases h with h | ⟨e, _⟩
  · generalize et : Value.type "int" = t at h
    cases h with
    | base h =>
      cases h with
      | int i => exact ⟨i, rfl⟩
      | _ => first | (cases et; done) | exact absurd et (by decide +kernel)
    | _ => first | (cases et; done) | exact absurd et (by decide +kernel)
  · cases e
section
variable {P : Program} {w : World} {K : PySem.W.Frag} {mg : Str → Option Value} {base : Heap}
def spTop (K : PySem.W.Frag) : Sp := fun vs H Q _ => ∃ a p q, vs = [.ref a] ∧ RatAt (ga K "Ratio") H a p q ∧ Q (.int p) H
def spBot (K : PySem.W.Frag) : Sp := fun vs H Q _ => ∃ a p q, vs = [.ref a] ∧ RatAt (ga K "Ratio") H a p q ∧ Q (.int q) H
theorem ok_Ratio_top (T : TX K mg) : FnR P w K mg base (L2.CX P w) 1 (recFn K (ma K (ga K "Ratio") "top") "property") (spTop K) := by
  refine fnR_of (T.d 10) sc_Ratio_top (fun vs H Q E h => ?_) (fun _ _ _ _ _ _ us hl => match us, hl with | [_], _ => rfl) (fun cdv A outer s H vs Q E hr h => ?_)
  · obtain ⟨a, p, q, rfl, _⟩ := h; rfl
  · obtain ⟨a, p, q, rfl, ⟨dx, ha⟩, k⟩ := h
    refine ⟨_, pss_one (ps_ret (SlX.pe_sl (pv 0))), ?_⟩
    exact ⟨_, rfl, a, _, dx, _, _, _, _, rfl, ha, (x_r T).cl, (x_r T).up, rfl, k⟩
theorem ok_Ratio_bottom (T : TX K mg) : FnR P w K mg base (L2.CX P w) 1 (recFn K (ma K (ga K "Ratio") "bottom") "property") (spBot K) := by
  refine fnR_of (T.d 11) sc_Ratio_bottom (fun vs H Q E h => ?_) (fun _ _ _ _ _ _ us hl => match us, hl with | [_], _ => rfl) (fun cdv A outer s H vs Q E hr h => ?_)
  · obtain ⟨a, p, q, rfl, _⟩ := h; rfl
  · obtain ⟨a, p, q, rfl, ⟨dx, ha⟩, k⟩ := h
    refine ⟨_, pss_one (ps_ret (SlX.pe_sl (pv 0))), ?_⟩
    exact ⟨_, rfl, a, _, dx, _, _, _, _, rfl, ha, (x_r T).cl, (x_r T).dn, rfl, k⟩
/-- parts: a new tuple of top and bottom -/
def spParts (K : PySem.W.Frag) : Sp := fun vs H Q _ => ∃ v p q, vs = [v] ∧ NumAt (ga K "Ratio") H v p q ∧ ∀ t H', Same H H' → H' t = some (.tup [.int p, .int q]) → Q (.ref t) H'
theorem ok_parts (T : TX K mg) : FnR P w K mg base (L2.CX P w) 5 (ga K "parts") (spParts K) := by
  refine fnR_of (T.d 7) sc_parts (fun vs H Q E h => ?_) (fun _ _ _ _ _ _ us hl => match us, hl with | [_], _ => rfl) (fun cdv A outer s H vs Q E hr h => ?_)
  · obtain ⟨v, p, q, rfl, _⟩ := h; rfl
  · obtain ⟨v, p, q, rfl, hn, k⟩ := h
    refine ⟨_, pss_cons (ps_if (pt_val (pe_callB (call_isiY (x_r T).cl (x_r T).isi) (by rfl) (T.f 37) (by decide +kernel) (pa_cons (pv 0) (pa_cons (pe_glob (v := .ref (ga K "Ratio")) (by rfl) (T.g 30) rfl) pa_nil)))) (pss_one (ps_ret (pe_tup (pa_cons (pe_prp (x_r T).cl (x_r T).ptop (ok_Ratio_top T) (hr.mono (by decide)) (pv 0)) (pa_cons (pe_prp (x_r T).cl (x_r T).pbot (ok_Ratio_bottom T) (hr.mono (by decide)) (pv 0)) pa_nil))))) (pss_nil)) (pss_one (ps_ret (pe_tup (pa_cons (pv 0) (pa_cons pe_int pa_nil))))), ?_⟩
    obtain ⟨t, ht, ho, _, hi, hr'⟩ := hn.ty (K := K)
    refine ⟨_, rfl, v, .ref (ga K "Ratio"), t, .ref (ga K "Ratio"), _, rfl, .own _, ht, k_rat T ho, _, rfl, ?_⟩
    refine ite2 (fun hc => ?_) (fun hc => ?_)
    · obtain ⟨a, rfl, dx, ha⟩ := hr' (of_decide_eq_true hc)
      refine ⟨_, rfl, a, dx, _, rfl, ha, a, p, q, rfl, ⟨dx, ha⟩, ?_⟩
      refine ⟨_, rfl, a, dx, _, rfl, ha, a, p, q, rfl, ⟨dx, ha⟩, ?_⟩
      exact ⟨sz 2, grow fun t1 H1 s1 n1 h1 => k t1 H1 s1 h1⟩
    · have hti : t = .type "int" := by
        rename_i hq
        rcases hq with z | z
        · exact z
        · exact absurd (decide_eq_true z) hc
      obtain ⟨rfl, rfl⟩ := hi hti
      exact ⟨_, rfl, sz 2, grow fun t1 H1 s1 n1 h1 => k t1 H1 s1 h1⟩
/-- what a refusal with a field asks -/
def Refused (E : XK) (C : Addr) (H : Hp) (v : V) : Prop := ∀ d H', Same H H' → H d = none → H' d = some (.xd [("value", v)]) → E (.ref C) (some d) H'
/-- Ratio.__init__ -/
def spInit (K : PySem.W.Frag) : Sp := fun vs H Q E => ∃ a dx v u tv tu, vs = [.ref a, v, u] ∧ H a = some (.ins (ga K "Ratio") dx []) ∧ H dx = some (.own a) ∧ dx ≠ a ∧ TyY K (ga K "Ratio") v H tv ∧ OkT (ga K "Ratio") tv ∧ TyY K (ga K "Ratio") u H tu ∧ OkT (ga K "Ratio") tu ∧
  (tv ≠ .type "int" → Refused E (ga K "InvalidNumber") H v) ∧ (tv = .type "int" → tu ≠ .type "int" → Refused E (ga K "InvalidNumber") H u) ∧
  (∀ p q, v = .int p → u = .int q → q = 0 → ∀ H', Same H H' → E (.ref (ga K "ByZero")) none H') ∧
  (∀ p q, v = .int p → u = .int q → q ≠ 0 → Bd 8000 q ∧ ∀ H', (∀ b o, H b = some o → b ≠ a → b ≠ dx → H' b = some o) → RatAt (ga K "Ratio") H' a (nrm p q).1 (nrm p q).2 → Q .non H')
theorem Refused.same {E : XK} {C : Addr} {H H' : Hp} {v : V} (s : Same H H') (h : Refused E C H v) : Refused E C H' v := fun d H2 s2 n e => h d H2 (s.trans s2) (s.free n) e
theorem ok_init0 (T : TX K mg) : ∃ fd, FunD K "__init__" "Ratio.__init__" (defArgs s_Ratio___init__) (defBody s_Ratio___init__) (defScope s_Ratio___init__) [.int 1] [] (ma K (ga K "Ratio") "__init__") fd ∧
    FnOk P w K mg base (L2.CX P w) 3 (ma K (ga K "Ratio") "__init__") fd ["self", "top", "bottom"] (spInit K) := by
  obtain ⟨fd, F⟩ := T.d 9
  refine ⟨fd, F, F.ok sc_Ratio___init__ (fun vs H Q E h => ?_) (fun cdv A outer s H vs Q E hr h => ?_)⟩
  · obtain ⟨a, dx, v, u, tv, tu, rfl, _⟩ := h; rfl
  · obtain ⟨a, dx, v, u, tv, tu, rfl, ha, hdx, nda, htv, hov, htu, hou, r1, r2, rz, ok⟩ := h
    refine ⟨_, pss_cons (ps_for (passes_of rfl) rfl (pi_list (pe_lst (pa_cons (pv 1) (pa_cons (pv 2) pa_nil)))) (pg_name (i := 3) sc_Ratio___init__.nd rfl (.inl rfl)) (pss_one (ps_if (pt_not (pt_val (pe_callR (ok_is_integer T) (hr.mono (by decide)) (T.kg 4) (by rfl) (T.g 1) passL (pa_cons (pv 3) pa_nil)))) (pss_one (ps_raise rfl (takes_of rfl rfl rfl rfl) (pmk_exc (x_in T).o (x_in T).i (ok_InvalidNumber___init__ T) (hr.mono (by decide)) passL (by rfl) (T.g 27) (pa_cons (pv 3) pa_nil)))) (pss_nil)))) (pss_cons (ps_if (pt_cmpR op_eq (pv 2) pe_int (nomark _)) (pss_one (ps_raise rfl (takes_of rfl rfl rfl rfl) (pmk_exc0 (x_z T).o (x_z T).i (ok_ByZero___init__ T) (hr.mono (by decide)) passL (by rfl) (T.g 29)))) (pss_nil)) (pss_cons (ps_set (i := 4) sc_Ratio___init__.nd rfl (.inl rfl) (pe_ifExp (pt_cmpR op_gt (pv 2) pe_int (nomark _)) (pe_callR (ok_common_divisor T) (hr.mono (by decide)) (T.kg 6) (by rfl) (T.g 3) passL (pa_cons (pv 1) (pa_cons (pv 2) pa_nil))) (pe_un un_neg (pe_callR (ok_common_divisor T) (hr.mono (by decide)) (T.kg 6) (by rfl) (T.g 3) passL (pa_cons (pv 1) (pa_cons (pv 2) pa_nil)))))) (pss_cons (SlX.ps_sl (pv 0) (pe_op op_fdivNW (pv 1) (pv 4))) (pss_one (SlX.ps_sl (pv 0) (pe_op op_fdivNW (pv 2) (pv 4))))))), ?_⟩
    refine ⟨_, rfl, _, rfl, sz 2, ?_⟩
    intro l nl; generalize he' : upd _ _ _ = H1; obtain ⟨s1, hl⟩ := new_facts nl he'; clear he'
    refine ⟨l, rfl, ⟨_, SqL.of hl⟩, for_list (K := K) (a := l) (xs := [v, u]) (fun i σ H2 => H2 = H1 ∧ (∃ z, σ = [some (.ref a), some v, some u, z, none]) ∧ (1 ≤ i → tv = .type "int") ∧ (2 ≤ i → tu = .type "int"))
      ⟨rfl, ⟨none, rfl⟩, by omega, by omega⟩ (fun i σ H2 _ ⟨e, _⟩ => by rw [e]; exact SqL.of hl) ?_ ?_⟩
    · rintro i x σ H2 hi ⟨rfl, ⟨z, rfl⟩, c1, c2⟩
      match i, hi with
      | 0, hi =>
        cases hi
        refine ⟨_, rfl, v, tv, rfl, tyY_same s1 htv, hov, _, rfl, ?_⟩
        refine ite2 (fun hc => ?_) (fun hc => ?_)
        · have hne : tv ≠ .type "int" := fun e => by rw [e] at hc; simp at hc
          exact ⟨_, rfl, (by simp), rd_exc1 fun d H3 s3 nd hd => r1 hne d H3 (s1.trans s3) (s1.free nd) hd⟩
        · have he : tv = .type "int" := by
            by_cases e : tv = .type "int"
            · exact e
            · exact absurd (by simp [e]) hc
          exact ⟨rfl, ⟨_, rfl⟩, fun _ => he, fun q => absurd q (by omega)⟩
      | 1, hi =>
        cases hi
        refine ⟨_, rfl, u, tu, rfl, tyY_same s1 htu, hou, _, rfl, ?_⟩
        refine ite2 (fun hc => ?_) (fun hc => ?_)
        · have hne : tu ≠ .type "int" := fun e => by rw [e] at hc; simp at hc
          exact ⟨_, rfl, (by simp), rd_exc1 fun d H3 s3 nd hd => r2 (c1 (Nat.le_refl _)) hne d H3 (s1.trans s3) (s1.free nd) hd⟩
        · have he : tu = .type "int" := by
            by_cases e : tu = .type "int"
            · exact e
            · exact absurd (by simp [e]) hc
          exact ⟨rfl, ⟨_, rfl⟩, fun _ => c1 (Nat.le_refl _), fun _ => he⟩
    · rintro σ H2 ⟨rfl, ⟨z, rfl⟩, c1, c2⟩
      have e1 := c1 (by simp)
      have e2 := c2 (by simp)
      subst e1 e2
      obtain ⟨p, rfl⟩ := tyY_int htv
      obtain ⟨q, rfl⟩ := tyY_int htu
      refine ⟨_, rfl, rfl, _, rfl, ?_⟩
      refine ite2 (fun hc => ?_) (fun hc => ?_)
      · have hq : q = 0 := by simpa using hc
        exact ⟨(by simp), rd_exc0 fun H3 s3 => rz p q rfl rfl hq H3 (s1.trans s3)⟩
      · have hq : q ≠ 0 := fun e => hc (by simp [e])
        obtain ⟨bq, fin⟩ := ok p q rfl rfl hq
        have hg : Bd 8000 (gsg p q) := bq.le (gsg_le hq)
        have hl2 : (gsg p q).natAbs.log2 < 9000 := Nat.lt_of_lt_of_le (PySem.Flt.log2_lt_of (by decide) hg) (by decide)
        have ha1 := s1 _ _ ha
        have hd1 := s1 _ _ hdx
        -- piece is gsg p q, by either way
        refine ⟨_, rfl, _, _, rfl, rfl, _, rfl, ?_⟩
        have rest : ∀ g : Int, g = gsg p q → (tSeq (SlX.sSl K (tVar 0) (tOp (rI CDivNW fun i j => V.int (i.fdiv j)) (tVar 1) (tVar 4)) "up") (SlX.sSl K (tVar 0) (tOp (rI CDivNW fun i j => V.int (i.fdiv j)) (tVar 2) (tVar 4)) "down"))
            { nx := fun _ H' => Q .non H', rt := Q } [some (.ref a), some (.int p), some (.int q), z, some (.int g)] H2 := by
          rintro g rfl
          refine ⟨_, rfl, _, rfl, p, gsg p q, rfl, rfl, ⟨gsg_ne hq, hl2⟩, _, rfl, a, _, dx, _, [], 1, rfl, .inl ⟨ha1, rfl⟩, (x_r T).cl, (x_r T).up, ?_⟩
          have S2 := SlX.slH_slt (H := H2) (a := a) (C := ga K "Ratio") (dx := dx) (vs := SlX.putS 1 (V.int (p.fdiv (gsg p q))) []) nda
          refine ⟨_, rfl, _, rfl, q, gsg p q, rfl, rfl, ⟨gsg_ne hq, hl2⟩, _, rfl, a, _, dx, _, _, 0, rfl, S2, (x_r T).cl, (x_r T).dn, ?_⟩
          rw [SlX.slH_twice nda]
          refine fin _ (fun b o e n1 n2 => ?_) ⟨dx, SlX.slH_slt nda⟩
          rw [SlX.slH_ne n1 n2]
          exact s1 b o e
        refine ite2 (fun hc => ?_) (fun hc => ?_)
        · have hq0 : 0 < q := of_decide_eq_true hc
          refine ⟨_, rfl, _, rfl, p, q, rfl, ?_⟩
          exact rest _ (by unfold gsg; rw [if_pos hq0])
        · have hq0 : ¬ 0 < q := fun h => hc (decide_eq_true h)
          refine ⟨_, rfl, _, rfl, p, q, rfl, _, rfl, ?_⟩
          exact rest _ (by unfold gsg; rw [if_neg hq0])
end
end Lw
set_option Elab.async false
set_option linter.all false
set_option maxRecDepth 100000
set_option maxHeartbeats 4000000
/-! Ratios made, and their operators. -/
namespace Lw
open PySem PySem.Spec PyProof.Rows L2 He Wl
section
variable {P : Program} {w : World} {K : PySem.W.Frag} {mg : Str → Option Value} {base : Heap}
theorem ok_Ratio___init__ (T : TX K mg) : FnR P w K mg base (L2.CX P w) 3 (ma K (ga K "Ratio") "__init__") (spInit K) := by
  obtain ⟨fd, F, G⟩ := ok_init0 (P := P) (w := w) (base := base) T
  obtain ⟨ds, hv, hb⟩ := F.binds1 (ps := ["self", "top", "bottom"]) 3 1 (by simp) rfl (fun T kV doc pm an cdv ct us its hl hi => match us, its, hl, hi with | [_, _, _], [_], _, _ => ⟨_, rfl, rfl⟩)
  exact (G.raw hb hv).imp fun vs H Q E h => by
    show spInit K (vs ++ []) H Q E
    rw [List.append_nil]; exact h
/-- the bottom left out -/
theorem ok_Ratio1 (T : TX K mg) : FnR P w K mg base (L2.CX P w) 3 (ma K (ga K "Ratio") "__init__") (fun vs H Q E => spInit K (vs ++ [.int 1]) H Q E) := by
  obtain ⟨fd, F, G⟩ := ok_init0 (P := P) (w := w) (base := base) T
  obtain ⟨ds, hv, hb⟩ := F.binds1 (ps := ["self", "top", "bottom"]) 2 0 (by simp) rfl (fun T kV doc pm an cdv ct us its hl hi => match us, its, hl, hi with | [_, _], [_], _, _ => ⟨_, rfl, rfl⟩)
  exact (G.raw hb hv).imp fun vs H Q E h => h
end
/-- what Ratio(..) asks; d: what is left out -/
structure SpMk (K : PySem.W.Frag) (d vs : List V) (H : Hp) (Q : VK) (E : XK) : Prop where
  h : ∃ v u tv tu, vs ++ d = [v, u] ∧ TyY K (ga K "Ratio") v H tv ∧ OkT (ga K "Ratio") tv ∧ TyY K (ga K "Ratio") u H tu ∧ OkT (ga K "Ratio") tu ∧
    (tv ≠ .type "int" → Refused E (ga K "InvalidNumber") H v) ∧ (tv = .type "int" → tu ≠ .type "int" → Refused E (ga K "InvalidNumber") H u) ∧
    (∀ p q, v = .int p → u = .int q → q = 0 → ∀ H', Same H H' → E (.ref (ga K "ByZero")) none H') ∧
    (∀ p q, v = .int p → u = .int q → q ≠ 0 → Bd 8000 q ∧ ∀ a H', Same H H' → RatAt (ga K "Ratio") H' a (nrm p q).1 (nrm p q).2 → Q (.ref a) H')
theorem SpMk.raw {K : PySem.W.Frag} {d vs : List V} {H : Hp} {Q : VK} {E : XK} (h : SpMk K d vs H Q E) :
    ∀ x dx, H x = none → H dx = none → dx ≠ x → spInit K ((.ref x :: vs) ++ d) (upd (upd H dx (.own x)) x (.ins (ga K "Ratio") dx [])) (fun v H2 => v = .non ∧ Q (.ref x) H2) E := by
  intro x dx hx hd ne
  obtain ⟨v, u, tv, tu, e, h1, h2, h3, h4, r1, r2, rz, ok⟩ := h.h
  have sm : Same H (upd (upd H dx (.own x)) x (.ins (ga K "Ratio") dx [])) := fun b o eb => by
    rw [upd_ne (ne_of_none eb hx), upd_ne (ne_of_none eb hd)]; exact eb
  refine ⟨x, dx, v, u, tv, tu, congrArg (V.ref x :: ·) e, upd_same, by rw [upd_ne ne, upd_same], ne, tyY_same sm h1, h2, tyY_same sm h3, h4, fun z => (r1 z).same sm, fun z1 z2 => (r2 z1 z2).same sm, fun p q e1 e2 e3 H' s' => rz p q e1 e2 e3 H' (sm.trans s'), fun p q e1 e2 e3 => ?_⟩
  obtain ⟨bq, k⟩ := ok p q e1 e2 e3
  refine ⟨bq, fun H' fr ra => ⟨rfl, k x H' (fun b o e => fr b o ?_ (ne_of_none e hx) (ne_of_none e hd)) ra⟩⟩
  exact sm b o e
section
variable {X : Cx} {p pos : Pos} {e : Expr} {es : List Expr} {t : TA} {E : XK}
theorem pe_ratio2 (T : TX X.K X.mg) (hr : Room (3 + 1) X.A) (hg : Gl X "Ratio") (hm : X.mg "Ratio" = some (.ref (ga X.K "Ratio"))) (hx : Passes (L2.CX X.prog X.w) X E) (ha : PA X (e :: es) t)
    (he : starEach (e :: es) X.env = (false, eval e X.env) :: starEach es X.env := by rfl) (hpl : (backTo pos (starEach es X.env)).any (·.1) = false := by rfl) : PE X (.Call (.Name "Ratio" p) (e :: es) [] pos) (tCallR (SpMk X.K []) E t) :=
  pe_makeS (x_r T).make (ok_Ratio___init__ T) hr hg hm hx (fun vs H Q h x dx e1 e2 e3 => by have z := h.raw x dx e1 e2 e3; rw [List.append_nil] at z; exact z) ha (by decide) he hpl
theorem pe_ratio1 (T : TX X.K X.mg) (hr : Room (3 + 1) X.A) (hg : Gl X "Ratio") (hm : X.mg "Ratio" = some (.ref (ga X.K "Ratio"))) (hx : Passes (L2.CX X.prog X.w) X E) (ha : PA X (e :: es) t)
    (he : starEach (e :: es) X.env = (false, eval e X.env) :: starEach es X.env := by rfl) (hpl : (backTo pos (starEach es X.env)).any (·.1) = false := by rfl) : PE X (.Call (.Name "Ratio" p) (e :: es) [] pos) (tCallR (SpMk X.K [.int 1]) E t) :=
  pe_makeS (x_r T).make (ok_Ratio1 T) hr hg hm hx (fun vs H Q h => h.raw) ha (by decide) he hpl
end
theorem SpMk.ints {K : PySem.W.Frag} {d vs : List V} {H : Hp} {Q : VK} {E : XK} {p q : Int} (e : vs ++ d = [.int p, .int q]) (h0 : q = 0 → ∀ H', Same H H' → E (.ref (ga K "ByZero")) none H')
    (h1 : q ≠ 0 → Bd 8000 q ∧ ∀ a H', Same H H' → RatAt (ga K "Ratio") H' a (nrm p q).1 (nrm p q).2 → Q (.ref a) H') : SpMk K d vs H Q E := by
  have ti : ∀ (H : Hp) (i : Int), TyY K (ga K "Ratio") (.int i) H (.type "int") := fun H i => .inl (.base (.int i))
  have oi : OkT (ga K "Ratio") (.type "int") := .inr ⟨"int", by decide, rfl⟩
  refine ⟨_, _, _, _, e, ti _ _, oi, ti _ _, oi, fun z => absurd rfl z, fun _ z => absurd rfl z, fun p' q' e1 e2 e3 => ?_, fun p' q' e1 e2 e3 => ?_⟩
  · cases e2; exact h0 e3
  · cases e1; cases e2; exact h1 e3
/-- the reading of Ratio(p, q) where it is made -/
theorem rd_ratio {K : PySem.W.Frag} {H1 : Hp} {Q : VK} {E : XK} {p q : Int} (hq : q ≠ 0) (bq : Bd 8000 q) (k : ∀ a H', Same H1 H' → RatAt (ga K "Ratio") H' a (nrm p q).1 (nrm p q).2 → Q (.ref a) H') : SpMk K [] [.int p, .int q] H1 Q E :=
  .ints rfl (fun z => absurd z hq) fun _ => ⟨bq, k⟩
/-- .. of Ratio(p) -/
theorem rd_ratio1 {K : PySem.W.Frag} {H1 : Hp} {Q : VK} {E : XK} {p : Int} (k : ∀ a H', Same H1 H' → RatAt (ga K "Ratio") H' a p 1 → Q (.ref a) H') : SpMk K [.int 1] [.int p] H1 Q E :=
  .ints (q := 1) rfl (fun z => absurd z (by decide)) fun _ => ⟨Bd.one (by decide), fun a H' s h => k a H' s (by rw [low_nrm1] at h; exact h)⟩
/-- .. where its bottom is 0 -/
theorem rd_ratio0 {K : PySem.W.Frag} {H1 : Hp} {Q : VK} {E : XK} {p q : Int} (hq : q = 0) (k : ∀ H', Same H1 H' → E (.ref (ga K "ByZero")) none H') : SpMk K [] [.int p, .int q] H1 Q E :=
  .ints rfl (fun _ => k) fun z => absurd hq z
section
variable {P : Program} {w : World} {K : PySem.W.Frag} {mg : Str → Option Value} {base : Heap}
/-- an operator: a Ratio a / b, a number c / d; f tells the quotient that is made -/
def spBin (K : PySem.W.Frag) (f : Int → Int → Int → Int → Int × Int) : Sp := fun vs H Q _ => ∃ a v p q r s, vs = [.ref a, v] ∧ RatAt (ga K "Ratio") H a p q ∧ NumAt (ga K "Ratio") H v r s ∧ Bd 3000 p ∧ Bd 3000 q ∧ Bd 3000 r ∧ Bd 3000 s ∧ q ≠ 0 ∧ s ≠ 0 ∧
  ∀ c H', Same H H' → RatAt (ga K "Ratio") H' c (nrm (f p q r s).1 (f p q r s).2).1 (nrm (f p q r s).1 (f p q r s).2).2 → Q (.ref c) H'
abbrev fAdd (p q r s : Int) : Int × Int := (p * s + r * q, q * s)
abbrev fSub (p q r s : Int) : Int × Int := (p * s - r * q, q * s)
abbrev fMul (p q r s : Int) : Int × Int := (p * r, q * s)
abbrev fOver (p q r s : Int) : Int × Int := (p * s, q * r)
theorem ok_Ratio___add__ (T : TX K mg) : FnR P w K mg base (L2.CX P w) 6 (ma K (ga K "Ratio") "__add__") (spBin K fAdd) := by
  refine fnR_of (T.d 13) sc_Ratio___add__ (fun vs H Q E h => ?_) (fun _ _ _ _ _ _ us hl => match us, hl with | [_, _], _ => rfl) (fun cdv A outer s H vs Q E hr h => ?_)
  · obtain ⟨a, v, p, q, r, s, rfl, _⟩ := h; rfl
  · obtain ⟨a, v, p, q, r, z, rfl, ⟨dx, ha⟩, hv, bp, bq, br, bs, hq, hs, k⟩ := h
    refine ⟨_, pss_cons (ps_asg (pe_callR (ok_parts T) (hr.mono (by decide)) (T.kg 7) (by rfl) (T.g 4) passL (pa_cons (pv 1) pa_nil)) (pg_tup rfl (pgs_cons (pg_name (i := 2) sc_Ratio___add__.nd rfl (.inl rfl)) (pgs_cons (pg_name (i := 3) sc_Ratio___add__.nd rfl (.inl rfl)) pgs_nil)))) (pss_one (ps_ret (pe_ratio2 T (hr.mono (by decide)) (by rfl) (T.g 30) passL (pa_cons (pe_op op_add (pe_op op_mulW (SlX.pe_sl (pv 0)) (pv 3)) (pe_op op_mulW (pv 2) (SlX.pe_sl (pv 0)))) (pa_cons (pe_op op_mulW (SlX.pe_sl (pv 0)) (pv 3)) pa_nil))))), ?_⟩
    refine ⟨_, rfl, v, r, z, rfl, hv, fun t H1 s1 ht => ⟨t, _, rfl, SqT.of ht, rfl, _, _, rfl, _, _, rfl, rfl, ?_⟩⟩
    have ha1 := slt_same s1 ha
    refine ⟨_, rfl, a, _, dx, _, _, _, _, rfl, ha1, (x_r T).cl, (x_r T).up, rfl, _, rfl, p, z, rfl, rfl, bp.mulW bs (by decide) (by decide) (by decide), ?_⟩
    refine ⟨_, rfl, _, rfl, a, _, dx, _, _, _, _, rfl, ha1, (x_r T).cl, (x_r T).dn, rfl, r, q, rfl, rfl, br.mulW bq (by decide) (by decide) (by decide), ?_⟩
    refine ⟨_, _, rfl, rfl, _, rfl, a, _, dx, _, _, _, _, rfl, ha1, (x_r T).cl, (x_r T).dn, rfl, _, rfl, q, z, rfl, rfl, bq.mulW bs (by decide) (by decide) (by decide), ?_⟩
    exact rd_ratio (Int.mul_ne_zero hq hs) ((bq.mul bs).mono (by decide)) fun c H2 s2 hc => k c H2 (s1.trans s2) hc
end
end Lw
set_option Elab.async false
set_option linter.all false
set_option maxRecDepth 100000
set_option maxHeartbeats 4000000
/-! The other operators of Ratio; kinds of numbers. -/
namespace Lw
open PySem PySem.Spec PyProof.Rows L2 He Wl
section
variable {P : Program} {w : World} {K : PySem.W.Frag} {mg : Str → Option Value} {base : Heap}
theorem ok_Ratio___sub__ (T : TX K mg) : FnR P w K mg base (L2.CX P w) 6 (ma K (ga K "Ratio") "__sub__") (spBin K fSub) := by
  refine fnR_of (T.d 14) sc_Ratio___sub__ (fun vs H Q E h => ?_) (fun _ _ _ _ _ _ us hl => match us, hl with | [_, _], _ => rfl) (fun cdv A outer s H vs Q E hr h => ?_)
  · obtain ⟨a, v, p, q, r, s, rfl, _⟩ := h; rfl
  · obtain ⟨a, v, p, q, r, z, rfl, ⟨dx, ha⟩, hv, bp, bq, br, bs, hq, hs, k⟩ := h
    refine ⟨_, pss_cons (ps_asg (pe_callR (ok_parts T) (hr.mono (by decide)) (T.kg 7) (by rfl) (T.g 4) passL (pa_cons (pv 1) pa_nil)) (pg_tup rfl (pgs_cons (pg_name (i := 2) sc_Ratio___sub__.nd rfl (.inl rfl)) (pgs_cons (pg_name (i := 3) sc_Ratio___sub__.nd rfl (.inl rfl)) pgs_nil)))) (pss_one (ps_ret (pe_ratio2 T (hr.mono (by decide)) (by rfl) (T.g 30) passL (pa_cons (pe_op op_sub (pe_op op_mulW (SlX.pe_sl (pv 0)) (pv 3)) (pe_op op_mulW (pv 2) (SlX.pe_sl (pv 0)))) (pa_cons (pe_op op_mulW (SlX.pe_sl (pv 0)) (pv 3)) pa_nil))))), ?_⟩
    refine ⟨_, rfl, v, r, z, rfl, hv, fun t H1 s1 ht => ⟨t, _, rfl, SqT.of ht, rfl, _, _, rfl, _, _, rfl, rfl, ?_⟩⟩
    have ha1 := slt_same s1 ha
    refine ⟨_, rfl, a, _, dx, _, _, _, _, rfl, ha1, (x_r T).cl, (x_r T).up, rfl, _, rfl, p, z, rfl, rfl, bp.mulW bs (by decide) (by decide) (by decide), ?_⟩
    refine ⟨_, rfl, _, rfl, a, _, dx, _, _, _, _, rfl, ha1, (x_r T).cl, (x_r T).dn, rfl, r, q, rfl, rfl, br.mulW bq (by decide) (by decide) (by decide), ?_⟩
    refine ⟨_, _, rfl, rfl, _, rfl, a, _, dx, _, _, _, _, rfl, ha1, (x_r T).cl, (x_r T).dn, rfl, _, rfl, q, z, rfl, rfl, bq.mulW bs (by decide) (by decide) (by decide), ?_⟩
    exact rd_ratio (Int.mul_ne_zero hq hs) ((bq.mul bs).mono (by decide)) fun c H2 s2 hc => k c H2 (s1.trans s2) hc
theorem ok_Ratio___mul__ (T : TX K mg) : FnR P w K mg base (L2.CX P w) 6 (ma K (ga K "Ratio") "__mul__") (spBin K fMul) := by
  refine fnR_of (T.d 15) sc_Ratio___mul__ (fun vs H Q E h => ?_) (fun _ _ _ _ _ _ us hl => match us, hl with | [_, _], _ => rfl) (fun cdv A outer s H vs Q E hr h => ?_)
  · obtain ⟨a, v, p, q, r, s, rfl, _⟩ := h; rfl
  · obtain ⟨a, v, p, q, r, z, rfl, ⟨dx, ha⟩, hv, bp, bq, br, bs, hq, hs, k⟩ := h
    refine ⟨_, pss_cons (ps_asg (pe_callR (ok_parts T) (hr.mono (by decide)) (T.kg 7) (by rfl) (T.g 4) passL (pa_cons (pv 1) pa_nil)) (pg_tup rfl (pgs_cons (pg_name (i := 2) sc_Ratio___mul__.nd rfl (.inl rfl)) (pgs_cons (pg_name (i := 3) sc_Ratio___mul__.nd rfl (.inl rfl)) pgs_nil)))) (pss_one (ps_ret (pe_ratio2 T (hr.mono (by decide)) (by rfl) (T.g 30) passL (pa_cons (pe_op op_mulW (SlX.pe_sl (pv 0)) (pv 2)) (pa_cons (pe_op op_mulW (SlX.pe_sl (pv 0)) (pv 3)) pa_nil))))), ?_⟩
    refine ⟨_, rfl, v, r, z, rfl, hv, fun t H1 s1 ht => ⟨t, _, rfl, SqT.of ht, rfl, _, _, rfl, _, _, rfl, rfl, ?_⟩⟩
    have ha1 := slt_same s1 ha
    refine ⟨_, rfl, a, _, dx, _, _, _, _, rfl, ha1, (x_r T).cl, (x_r T).up, rfl, _, rfl, p, r, rfl, rfl, bp.mulW br (by decide) (by decide) (by decide), ?_⟩
    refine ⟨_, rfl, a, _, dx, _, _, _, _, rfl, ha1, (x_r T).cl, (x_r T).dn, rfl, _, rfl, q, z, rfl, rfl, bq.mulW bs (by decide) (by decide) (by decide), ?_⟩
    exact rd_ratio (Int.mul_ne_zero hq hs) ((bq.mul bs).mono (by decide)) fun c H2 s2 hc => k c H2 (s1.trans s2) hc
def spNeg (K : PySem.W.Frag) : Sp := fun vs H Q _ => ∃ a p q, vs = [.ref a] ∧ RatAt (ga K "Ratio") H a p q ∧ Bd 8000 q ∧ q ≠ 0 ∧ ∀ c H', Same H H' → RatAt (ga K "Ratio") H' c (nrm (-p) q).1 (nrm (-p) q).2 → Q (.ref c) H'
theorem ok_Ratio___neg__ (T : TX K mg) : FnR P w K mg base (L2.CX P w) 5 (ma K (ga K "Ratio") "__neg__") (spNeg K) := by
  refine fnR_of (T.d 17) sc_Ratio___neg__ (fun vs H Q E h => ?_) (fun _ _ _ _ _ _ us hl => match us, hl with | [_], _ => rfl) (fun cdv A outer s H vs Q E hr h => ?_)
  · obtain ⟨a, p, q, rfl, _⟩ := h; rfl
  · obtain ⟨a, p, q, rfl, ⟨dx, ha⟩, bq, hq, k⟩ := h
    refine ⟨_, pss_one (ps_ret (pe_ratio2 T (hr.mono (by decide)) (by rfl) (T.g 30) passL (pa_cons (pe_un un_neg (SlX.pe_sl (pv 0))) (pa_cons (SlX.pe_sl (pv 0)) pa_nil)))), ?_⟩
    refine ⟨_, rfl, a, _, dx, _, _, _, _, rfl, ha, (x_r T).cl, (x_r T).up, rfl, _, rfl, ?_⟩
    refine ⟨_, rfl, a, _, dx, _, _, _, _, rfl, ha, (x_r T).cl, (x_r T).dn, rfl, ?_⟩
    exact rd_ratio hq bq k
/-- below -/
def spBelow (K : PySem.W.Frag) : Sp := fun vs H Q _ => ∃ a v p q r s, vs = [.ref a, v] ∧ RatAt (ga K "Ratio") H a p q ∧ NumAt (ga K "Ratio") H v r s ∧ Bd 4000 p ∧ Bd 4000 q ∧ Bd 4000 r ∧ Bd 4000 s ∧
  ∀ H', Same H H' → Q (.bl (decide (p * s < r * q))) H'
theorem okd_Ratio_below (T : TX K mg) : FnD P w K mg base 6 (ma K (ga K "Ratio") "below") ["self", "number"] (spBelow K) d_Ratio_below.name d_Ratio_below.qual d_Ratio_below.params d_Ratio_below.body d_Ratio_below.scope := by
  refine fnD_of (T.d 19) sc_Ratio_below (fun vs H Q E h => ?_) (fun cdv A outer s H vs Q E hr h => ?_)
  · obtain ⟨a, v, p, q, r, s, rfl, _⟩ := h; rfl
  · obtain ⟨a, v, p, q, r, z, rfl, ⟨dx, ha⟩, hv, bp, bq, br, bs, k⟩ := h
    refine ⟨_, pss_cons (ps_asg (pe_callR (ok_parts T) (hr.mono (by decide)) (T.kg 7) (by rfl) (T.g 4) passL (pa_cons (pv 1) pa_nil)) (pg_tup rfl (pgs_cons (pg_name (i := 2) sc_Ratio_below.nd rfl (.inl rfl)) (pgs_cons (pg_name (i := 3) sc_Ratio_below.nd rfl (.inl rfl)) pgs_nil)))) (pss_one (ps_ret (pe_cmpR op_lt (pe_op op_mulW (SlX.pe_sl (pv 0)) (pv 3)) (pe_op op_mulW (pv 2) (SlX.pe_sl (pv 0))) (nomark _)))), ?_⟩
    refine ⟨_, rfl, v, r, z, rfl, hv, fun t H1 s1 ht => ⟨t, _, rfl, SqT.of ht, rfl, _, _, rfl, _, _, rfl, rfl, ?_⟩⟩
    have ha1 := slt_same s1 ha
    refine ⟨_, rfl, a, _, dx, _, _, _, _, rfl, ha1, (x_r T).cl, (x_r T).up, rfl, _, rfl, p, z, rfl, rfl, bp.mulW bs (by decide) (by decide) (by decide), ?_⟩
    refine ⟨_, rfl, _, rfl, a, _, dx, _, _, _, _, rfl, ha1, (x_r T).cl, (x_r T).dn, rfl, r, q, rfl, rfl, br.mulW bq (by decide) (by decide) (by decide), ?_⟩
    exact ⟨_, _, rfl, rfl, k H1 s1⟩
theorem ok_Ratio_below (T : TX K mg) : FnR P w K mg base (L2.CX P w) 6 (ma K (ga K "Ratio") "below") (spBelow K) := (okd_Ratio_below T).r (fun _ _ _ _ _ _ us hl => match us, hl with | [_, _], _ => rfl)
theorem okk_Ratio_below (T : TX K mg) : FnKw P w K mg base 6 (ma K (ga K "Ratio") "below") 1 ["number"] (spBelow K) := (okd_Ratio_below T).kw 1 ["number"] rfl (fun _ _ _ _ _ _ us ws h1 h2 => match us, ws, h1, h2 with | [_], [_], _, _ => rfl)
/-- is_number: by the type -/
def numT (K : PySem.W.Frag) (t : Value) : Bool := decide (t = .ref (ga K "Ratio")) || decide (t = .type "int")
def spIsNum (K : PySem.W.Frag) : Sp := fun vs H Q _ => ∃ v t b, vs = [v] ∧ TyY K (ga K "Ratio") v H t ∧ OkT (ga K "Ratio") t ∧ numT K t = b ∧ Q (.bl b) H
theorem okd_is_number (T : TX K mg) : FnD P w K mg base 5 (ga K "is_number") ["value"] (spIsNum K) d_is_number.name d_is_number.qual d_is_number.params d_is_number.body d_is_number.scope := by
  refine fnD_of (T.d 21) sc_is_number (fun vs H Q E h => ?_) (fun cdv A outer s H vs Q E hr h => ?_)
  · obtain ⟨v, t, b, rfl, _⟩ := h; rfl
  · obtain ⟨v, t, b, rfl, ht, ho, rfl, k⟩ := h
    refine ⟨_, pss_one (ps_ret (pe_or (pe_callB (call_isiY (x_r T).cl (x_r T).isi) (by rfl) (T.f 37) (by decide +kernel) (pa_cons (pv 0) (pa_cons (pe_glob (v := .ref (ga K "Ratio")) (by rfl) (T.g 30) rfl) pa_nil))) (pe_one (pe_callR (ok_is_integer T) (hr.mono (by decide)) (T.kg 4) (by rfl) (T.g 1) passL (pa_cons (pv 0) pa_nil))))), ?_⟩
    refine ⟨_, rfl, v, .ref (ga K "Ratio"), t, .ref (ga K "Ratio"), _, rfl, .own _, ht, k_rat T ho, _, rfl, ?_⟩
    refine ite2 (fun hc => ?_) (fun hc => ?_)
    · have e : numT K t = true := by unfold numT; rw [hc]; rfl
      rw [e] at k; exact k
    · have hf : decide (t = Value.ref (ga K "Ratio")) = false := by
        cases q : decide (t = Value.ref (ga K "Ratio")) with
        | false => rfl
        | true => exact absurd q hc
      have e : numT K t = decide (t = .type "int") := by unfold numT; rw [hf]; rfl
      rw [e] at k
      exact ⟨_, rfl, v, t, rfl, ht, ho, k⟩
theorem ok_is_number (T : TX K mg) : FnR P w K mg base (L2.CX P w) 5 (ga K "is_number") (spIsNum K) := (okd_is_number T).r (fun _ _ _ _ _ _ us hl => match us, hl with | [_], _ => rfl)
theorem okk_is_number (T : TX K mg) : FnKw P w K mg base 5 (ga K "is_number") 0 ["value"] (spIsNum K) := (okd_is_number T).kw 0 ["value"] rfl (fun _ _ _ _ _ _ us ws h1 h2 => match us, ws, h1, h2 with | [], [_], _, _ => rfl)
theorem numT_of {R : Addr} {K : PySem.W.Frag} {H : Hp} {v : V} {p q : Int} (h : NumAt (ga K "Ratio") H v p q) : ∃ t, TyY K (ga K "Ratio") v H t ∧ OkT (ga K "Ratio") t ∧ numT K t = true := by
  obtain ⟨t, h1, h2, h3, _⟩ := h.ty (K := K)
  refine ⟨t, h1, h2, ?_⟩
  rcases h3 with rfl | rfl
  · unfold numT; simp
  · unfold numT; simp
/-- == : an odd value is not equal, a number by its parts -/
def spEq (K : PySem.W.Frag) : Sp := fun vs H Q _ => ∃ a v p q, vs = [.ref a, v] ∧ RatAt (ga K "Ratio") H a p q ∧
  ((∃ t, TyY K (ga K "Ratio") v H t ∧ OkT (ga K "Ratio") t ∧ numT K t = false ∧ Q (.bl false) H) ∨
   (∃ r s, NumAt (ga K "Ratio") H v r s ∧ ∀ H', Same H H' → Q (.bl (decide (p = r ∧ q = s))) H'))
theorem ok_Ratio___eq__ (T : TX K mg) : FnR P w K mg base (L2.CX P w) 6 (ma K (ga K "Ratio") "__eq__") (spEq K) := by
  refine fnR_of (T.d 18) sc_Ratio___eq__ (fun vs H Q E h => ?_) (fun _ _ _ _ _ _ us hl => match us, hl with | [_, _], _ => rfl) (fun cdv A outer s H vs Q E hr h => ?_)
  · obtain ⟨a, v, p, q, rfl, _⟩ := h; rfl
  · obtain ⟨a, v, p, q, rfl, ⟨dx, ha⟩, k⟩ := h
    refine ⟨_, pss_cons (ps_if (pt_not (pt_val (pe_callR (ok_is_number T) (hr.mono (by decide)) (T.kg 21) (by rfl) (T.g 6) passL (pa_cons (pv 1) pa_nil)))) (pss_one (ps_ret pe_bl)) (pss_nil)) (pss_one (ps_ret (pe_cmpR (op_eqD hr.units) (pe_tup (pa_cons (SlX.pe_sl (pv 0)) (pa_cons (SlX.pe_sl (pv 0)) pa_nil))) (pe_callR (ok_parts T) (hr.mono (by decide)) (T.kg 7) (by rfl) (T.g 4) passL (pa_cons (pv 1) pa_nil)) (nomark _)))), ?_⟩
    rcases k with ⟨t, ht, ho, hn, k⟩ | ⟨r, z, hv, k⟩
    · exact ⟨_, rfl, v, t, _, rfl, ht, ho, hn, _, rfl, k⟩
    · obtain ⟨t, ht, ho, hn⟩ := numT_of (R := 0) hv
      refine ⟨_, rfl, v, t, _, rfl, ht, ho, hn, _, rfl, ?_⟩
      refine ⟨_, rfl, a, _, dx, _, _, _, _, rfl, ha, (x_r T).cl, (x_r T).up, rfl, _, rfl, a, _, dx, _, _, _, _, rfl, ha, (x_r T).cl, (x_r T).dn, rfl, sz 2, ?_⟩
      intro l nl; generalize he' : upd _ _ _ = H1; obtain ⟨s1, hl⟩ := new_facts nl he'; clear he'
      refine ⟨_, rfl, v, r, z, rfl, hv.same s1, fun t2 H2 s2 ht2 => ?_⟩
      refine ⟨.tuple [.int p, .int q], .tuple [.int r, .int z], .tup (SqT.of (s2 _ _ hl)) (.cons (.int _) (.cons (.int _) .nil)), .tup (SqT.of ht2) (.cons (.int _) (.cons (.int _) .nil)), rfl, rfl, ?_⟩
      have e : PyData.eqv (.tuple [.int p, .int q]) (.tuple [.int r, .int z]) = decide (p = r ∧ q = z) := by
        simp only [PyData.eqv, PyData.eqvAll]
        rw [Bool.eq_iff_iff]; simp
      rw [e]
      exact k H2 (s1.trans s2)
end
end Lw
set_option Elab.async false
set_option linter.all false
set_option maxRecDepth 100000
set_option maxHeartbeats 4000000
/-! Amounts, shares, lists of numbers. -/
namespace Lw
open PySem PySem.Spec PyProof.Rows L2 He Wl
section
variable {P : Program} {w : World} {K : PySem.W.Frag} {mg : Str → Option Value} {base : Heap}
/-- v is of a type that is no number's -/
def Odd (K : PySem.W.Frag) (H : Hp) (v : V) : Prop := ∃ t, TyY K (ga K "Ratio") v H t ∧ OkT (ga K "Ratio") t ∧ numT K t = false
theorem Odd.same {H H' : Hp} {v : V} (s : Same H H') (h : Odd K H v) : Odd K H' v := by
  obtain ⟨t, h1, h2, h3⟩ := h
  exact ⟨t, tyY_same s h1, h2, h3⟩
def spIsAm (K : PySem.W.Frag) (f : Int → Int → Bool) : Sp := fun vs H Q _ => ∃ v, vs = [v] ∧ ((Odd K H v ∧ Q (.bl false) H) ∨ ∃ p q, NumAt (ga K "Ratio") H v p q ∧ ∀ H', Same H H' → Q (.bl (f p q)) H')
abbrev fAm (p _q : Int) : Bool := decide (0 ≤ p)
abbrev fSh (p q : Int) : Bool := decide (0 ≤ p ∧ p ≤ q)
/-- as_ratio -/
def spAs (K : PySem.W.Frag) : Sp := fun vs H Q E => ∃ v, vs = [v] ∧ ((Odd K H v ∧ Refused E (ga K "InvalidNumber") H v) ∨
  ∃ p q, NumAt (ga K "Ratio") H v p q ∧ q ≠ 0 ∧ Bd 8000 q ∧ ∀ c H', Same H H' → RatAt (ga K "Ratio") H' c (nrm p q).1 (nrm p q).2 → Q (.ref c) H')
theorem okd_as_ratio (T : TX K mg) : FnD P w K mg base 6 (ga K "as_ratio") ["number"] (spAs K) d_as_ratio.name d_as_ratio.qual d_as_ratio.params d_as_ratio.body d_as_ratio.scope := by
  refine fnD_of (T.d 22) sc_as_ratio (fun vs H Q E h => ?_) (fun cdv A outer s H vs Q E hr h => ?_)
  · obtain ⟨v, rfl, _⟩ := h; rfl
  · obtain ⟨v, rfl, k⟩ := h
    refine ⟨_, pss_cons (ps_if (pt_not (pt_val (pe_callR (ok_is_number T) (hr.mono (by decide)) (T.kg 21) (by rfl) (T.g 6) passL (pa_cons (pv 0) pa_nil)))) (pss_one (ps_raise rfl (takes_of rfl rfl rfl rfl) (pmk_exc (x_in T).o (x_in T).i (ok_InvalidNumber___init__ T) (hr.mono (by decide)) passL (by rfl) (T.g 27) (pa_cons (pv 0) pa_nil)))) (pss_nil)) (pss_cons (ps_asg (pe_callR (ok_parts T) (hr.mono (by decide)) (T.kg 7) (by rfl) (T.g 4) passL (pa_cons (pv 0) pa_nil)) (pg_tup rfl (pgs_cons (pg_name (i := 1) sc_as_ratio.nd rfl (.inl rfl)) (pgs_cons (pg_name (i := 2) sc_as_ratio.nd rfl (.inl rfl)) pgs_nil)))) (pss_one (ps_ret (pe_ratio2 T (hr.mono (by decide)) (by rfl) (T.g 30) passL (pa_cons (pv 1) (pa_cons (pv 2) pa_nil)))))), ?_⟩
    rcases k with ⟨⟨t, ht, ho, hn⟩, k⟩ | ⟨p, q, hv, hq, bq, k⟩
    · exact ⟨_, rfl, v, t, _, rfl, ht, ho, hn, _, rfl, _, rfl, (by simp), rd_exc1 fun d H3 s3 nd hd => k d H3 s3 nd hd⟩
    · obtain ⟨t, ht, ho, hn⟩ := numT_of (R := 0) hv
      refine ⟨_, rfl, v, t, _, rfl, ht, ho, hn, _, rfl, ?_⟩
      refine ⟨_, rfl, v, p, q, rfl, hv, fun t1 H1 s1 h1 => ⟨t1, _, rfl, SqT.of h1, rfl, _, _, rfl, _, _, rfl, rfl, ?_⟩⟩
      exact ⟨_, rfl, _, rfl, rd_ratio hq bq fun c H2 s2 hc => k c H2 (s1.trans s2) hc⟩
theorem ok_as_ratio (T : TX K mg) : FnR P w K mg base (L2.CX P w) 6 (ga K "as_ratio") (spAs K) := (okd_as_ratio T).r (fun _ _ _ _ _ _ us hl => match us, hl with | [_], _ => rfl)
theorem okk_as_ratio (T : TX K mg) : FnKw P w K mg base 6 (ga K "as_ratio") 0 ["number"] (spAs K) := (okd_as_ratio T).kw 0 ["number"] rfl (fun _ _ _ _ _ _ us ws h1 h2 => match us, ws, h1, h2 with | [], [_], _, _ => rfl)
/-- each item's kind is told: bs -/
def Kinds (K : PySem.W.Frag) (H : Hp) (xs : List V) (bs : List Bool) : Prop := bs.length = xs.length ∧ ∀ (i : Nat) (x : V), xs[i]? = some x → ∃ t b, TyY K (ga K "Ratio") x H t ∧ OkT (ga K "Ratio") t ∧ numT K t = b ∧ bs[i]? = some b
/-- need_numbers -/
def spNeed0 (K : PySem.W.Frag) : Sp := fun vs H Q E => ∃ v n, vs = [v, .int n] ∧
  ((∃ t, TyY K (ga K "Ratio") v H t ∧ OkT (ga K "Ratio") t ∧ t ≠ .type "list" ∧ t ≠ .type "tuple" ∧ Refused E (ga K "InvalidNumber") H v) ∨
   ∃ a o xs bs, v = .ref a ∧ H a = some o ∧ SeqO o xs ∧ Kinds K H xs bs ∧ xs.length < 100 ∧
    ((((xs.length : Nat) : Int) < n ∨ bs.all id = false) → Refused E (ga K "InvalidNumber") H v) ∧ (n ≤ ((xs.length : Nat) : Int) → bs.all id = true → ∀ H', Same H H' → Q .non H'))
structure spNeed (K : PySem.W.Frag) (vs : List V) (H : Hp) (Q : VK) (E : XK) : Prop where
  h : spNeed0 K vs H Q E
theorem okT_list : OkT (ga K "Ratio") (.type "list") := .inr ⟨"list", by decide, rfl⟩
theorem okT_tup : OkT (ga K "Ratio") (.type "tuple") := .inr ⟨"tuple", by decide, rfl⟩
theorem seq_ty {H : Hp} {a : Addr} {o : HO} {xs : List V} (h : H a = some o) (ho : SeqO o xs) : ∃ t, TyY K (ga K "Ratio") (.ref a) H t ∧ OkT (ga K "Ratio") t ∧ (t = .type "list" ∨ t = .type "tuple") := by
  rcases ho with rfl | rfl
  · exact ⟨.type "list", .inl (.base (.lst h)), okT_list, .inl rfl⟩
  · exact ⟨.type "tuple", .inl (.base (.tup h)), okT_tup, .inr rfl⟩
theorem okd_need_numbers (T : TX K mg) : FnD P w K mg base 6 (ga K "need_numbers") ["numbers", "fewest"] (spNeed K) d_need_numbers.name d_need_numbers.qual d_need_numbers.params d_need_numbers.body d_need_numbers.scope := by
  refine fnD_of (T.d 23) sc_need_numbers (fun vs H Q E h => ?_) (fun cdv A outer s H vs Q E hr h => ?_)
  · obtain ⟨⟨v, n, rfl, _⟩⟩ := h; rfl
  · obtain ⟨⟨v, n, rfl, k⟩⟩ := h
    refine ⟨_, pss_one (ps_if (PW.pt (pw_or (pt_not (pt_val (pe_callR (ok_is_list T) (hr.mono (by decide)) (T.kg 5) (by rfl) (T.g 2) passL (pa_cons (pv 0) pa_nil)))) (pw_or (pt_cmpR op_lt (pe_callB call_len_seq (by rfl) (T.f 38) (by decide +kernel) (pa_cons (pv 0) pa_nil)) (pv 1) (nomark _)) (pw_or1 (pt_val (pe_callB (cr_any rfl) (by rfl) (T.f 32) (by decide +kernel) (pa_cons (pe_lc (own := [("item", 2)]) (by rfl) sc_need_numbers.nd (pi_seq (pv 0)) (blkOk_by (own := [("item", 2)]) (N := ["numbers", "fewest", "item"]) (sc := defScope s_need_numbers) (by decide +kernel)) (fun _ _ _ _ _ => (pg_name (i := 2) sc_need_numbers.nd rfl (.inl rfl))) (fun _ _ _ _ _ => pts_nil) (fun _ _ _ _ _ => (pe_not (pe_callR (ok_is_number T) (hr.mono (by decide)) (T.kg 21) (by rfl) (T.g 6) passL (pa_cons (pv 2) pa_nil))))) pa_nil))))))) (pss_one (ps_raise rfl (takes_of rfl rfl rfl rfl) (pmk_exc (x_in T).o (x_in T).i (ok_InvalidNumber___init__ T) (hr.mono (by decide)) passL (by rfl) (T.g 27) (pa_cons (pv 0) pa_nil)))) (pss_nil)), ?_⟩
    rcases k with ⟨t, ht, ho, n1, n2, k⟩ | ⟨a, o, xs, bs, rfl, ha, ho, ⟨hl, hk⟩, hb, k0, k1⟩
    · refine ⟨_, rfl, v, t, rfl, ht, ho, fun H1 s1 => ⟨_, rfl, ?_⟩⟩
      have e : (decide (t = Value.type "list") || decide (t = Value.type "tuple")) = false := by simp [n1, n2]
      rw [e]
      exact ⟨_, rfl, (by simp), rd_exc1 fun d H3 s3 nd hd => k d H3 (s1.trans s3) (s1.free nd) hd⟩
    · obtain ⟨t, ht, hot, hty⟩ := seq_ty (K := K) ha ho
      refine ⟨_, rfl, .ref a, t, rfl, ht, hot, fun H1 s1 => ⟨_, rfl, ?_⟩⟩
      have e : (decide (t = Value.type "list") || decide (t = Value.type "tuple")) = true := by
        rcases hty with rfl | rfl <;> simp
      rw [e]
      refine ⟨_, rfl, a, xs, rfl, ho.sq (s1 _ _ ha), _, rfl, _, _, rfl, rfl, _, rfl, ?_⟩
      refine ite2 (fun hc => ?_) (fun hc => ?_)
      · have hn : ((xs.length : Nat) : Int) < n := of_decide_eq_true hc
        exact ⟨_, rfl, (by simp), rd_exc1 fun d H3 s3 nd hd => k0 (.inl hn) d H3 (s1.trans s3) (s1.free nd) hd⟩
      · have hn : n ≤ ((xs.length : Nat) : Int) := by
          have := hc
          simp only [decide_eq_true_eq] at this
          omega
        refine rd_seqV rfl ho (s1 _ _ ha) fun J W => ?_
        intro D nD
        refine lc_it W (fun i H2 => Same H1 H2 ∧ H2 D = some (.lst ((bs.take i).map fun b => V.bl (!b)))) ⟨same_new nD, upd_same⟩ (fun i H2 _ h2 => h2.1 _ _ (s1 _ _ ha)) ?_ ?_
        · rintro i x H2 _ hi ⟨s2, hD⟩ ⟨rfl, hx⟩
          obtain ⟨tx, b, h1, h2, h3, h4⟩ := hk i x hx
          refine ⟨rfl, ?_⟩
          refine ⟨_, rfl, x, tx, b, rfl, tyY_same (s1.trans s2) h1, h2, h3, _, rfl, ?_⟩
          refine ⟨_, hD, ?_, ?_, ?_⟩
          · simp only [List.length_map, List.length_take]
            exact Nat.lt_of_lt_of_le (show _ < 100 by omega) (sz 100)
          · exact same_upd nD s2
          · rw [upd_same, List.take_add_one, h4]
            simp
        · rintro H2 ⟨s2, hD⟩
          rw [← hl, List.take_length] at hD
          refine ⟨D, bs.map (!·), rfl, SqL.of (by rw [hD, List.map_map]; rfl), _, rfl, ?_⟩
          refine ite2 (fun hc => ?_) (fun hc => ?_)
          · have hb0 : bs.all id = false := by
              simpa [List.any_map] using hc
            exact ⟨_, rfl, (by simp), rd_exc1 fun d H3 s3 nd hd => k0 (.inr hb0) d H3 ((s1.trans s2).trans s3) ((s1.trans s2).free nd) hd⟩
          · have hb1 : bs.all id = true := by
              simpa [List.any_map] using hc
            exact k1 hn hb1 H2 (s1.trans s2)
theorem ok_need_numbers (T : TX K mg) : FnR P w K mg base (L2.CX P w) 6 (ga K "need_numbers") (spNeed K) := (okd_need_numbers T).r (fun _ _ _ _ _ _ us hl => match us, hl with | [_, _], _ => rfl)
/-- a list or a tuple of numbers stands at a: the pairs ps -/
structure Nums (R : Addr) (H : Hp) (a : Addr) (o : HO) (xs : List V) (ps : List (Int × Int)) : Prop where
  at_ : H a = some o
  ho : SeqO o xs
  len : ps.length = xs.length
  num : ∀ (i : Nat) (x : V), xs[i]? = some x → ∃ p q, ps[i]? = some (p, q) ∧ NumAt R H x p q
theorem Nums.same {R : Addr} {H H' : Hp} {a : Addr} {o : HO} {xs : List V} {ps : List (Int × Int)} (s : Same H H') (h : Nums R H a o xs ps) : Nums R H' a o xs ps :=
  ⟨s _ _ h.at_, h.ho, h.len, fun i x hx => let ⟨p, q, e, n⟩ := h.num i x hx; ⟨p, q, e, n.same s⟩⟩
theorem Nums.kinds {H : Hp} {a : Addr} {o : HO} {xs : List V} {ps : List (Int × Int)} (h : Nums (ga K "Ratio") H a o xs ps) : Kinds K H xs (xs.map fun _ => true) := by
  refine ⟨by simp, fun i x hx => ?_⟩
  obtain ⟨p, q, _, hn⟩ := h.num i x hx
  obtain ⟨t, h1, h2, h3⟩ := numT_of (R := 0) hn
  exact ⟨t, true, h1, h2, h3, by simp [hx]⟩
theorem Nums.need {H : Hp} {a : Addr} {o : HO} {xs : List V} {ps : List (Int × Int)} {n : Int} {Q : VK} {E : XK} (h : Nums (ga K "Ratio") H a o xs ps) (hl : xs.length < 100) (hn : n ≤ ((xs.length : Nat) : Int)) (k : ∀ H', Same H H' → Q .non H') : spNeed K [.ref a, .int n] H Q E := by
  refine ⟨.ref a, n, rfl, .inr ⟨a, o, xs, xs.map fun _ => true, rfl, h.at_, h.ho, h.kinds, hl, fun z => ?_, fun _ _ => k⟩⟩
  rcases z with z | z
  · omega
  · have : (xs.map fun _ => true).all id = true := by simp
    rw [this] at z; cases z
end
end Lw
set_option Elab.async false
set_option linter.all false
set_option maxRecDepth 100000
set_option maxHeartbeats 4000000
/-! Sums, the least and the greatest. -/
namespace Lw
open PySem PySem.Spec PyProof.Rows L2 He Wl
/-! ### plain -/
abbrev Pr := Int × Int
def addF (a b : Pr) : Pr := nrm (a.1 * b.2 + b.1 * a.2) (a.2 * b.2)
def subF (a b : Pr) : Pr := nrm (a.1 * b.2 - b.1 * a.2) (a.2 * b.2)
def mulF (a b : Pr) : Pr := nrm (a.1 * b.1) (a.2 * b.2)
def ovF (a b : Pr) : Pr := nrm (a.1 * b.2) (a.2 * b.1)
def lessF (a b : Pr) : Bool := decide (a.1 * b.2 < b.1 * a.2)
def totI (ps : List Pr) : Nat → Pr
  | 0 => (0, 1)
  | i + 1 => addF (totI ps i) (ps.getD i (0, 1))
def lowI (ps : List Pr) : Nat → Nat
  | 0 => 0
  | i + 1 => if lessF (ps.getD i (0, 1)) (ps.getD (lowI ps i) (0, 1)) = true then i else lowI ps i
def highI (ps : List Pr) : Nat → Nat
  | 0 => 0
  | i + 1 => if lessF (ps.getD (highI ps i) (0, 1)) (ps.getD i (0, 1)) = true then i else highI ps i
/-- a number in lowest terms, not too long -/
def Fine (a : Pr) : Prop := Low a.1 a.2 ∧ Bd 101 a.1 ∧ Bd 101 a.2
theorem totI_ok (ps : List Pr) (h : ∀ p ∈ ps, Fine p) : ∀ i, i ≤ ps.length → Low (totI ps i).1 (totI ps i).2 ∧ Bd (110 * (i + 1)) (totI ps i).1 ∧ Bd (110 * (i + 1)) (totI ps i).2
  | 0, _ => by
    refine ⟨low_one 0, ?_, ?_⟩
    · show (0 : Nat) < 2 ^ 110; decide
    · show (1 : Nat) < 2 ^ 110; decide
  | i + 1, hi => by
    obtain ⟨h1, h2, h3⟩ := totI_ok ps h i (Nat.le_of_succ_le hi)
    have hg : ps[i]? = some (ps[i]'(by omega)) := by simp [show i < ps.length by omega]
    have hd : ps.getD i (0, 1) = ps[i]'(by omega) := by simp [List.getD, hg]
    obtain ⟨g1, g2, g3⟩ := h _ (List.getElem_mem (h := (by omega : i < ps.length)))
    rw [← hd] at g1 g2 g3
    have hne : (totI ps i).2 * (ps.getD i (0, 1)).2 ≠ 0 := Int.mul_ne_zero h1.ne g1.ne
    refine ⟨nrm_low hne, ?_, ?_⟩
    · refine Bd.le (Bd.mono (((h2.mul g3).mono (Nat.le_refl _)).add ((g2.mul h3).mono (by omega))) ?_) (nrm_le1 hne)
      omega
    · refine Bd.le (Bd.mono (h3.mul g3) ?_) (nrm_le2 hne)
      omega
theorem lowI_lt {ps : List Pr} : ∀ i, i ≤ ps.length → 0 < ps.length → lowI ps i < ps.length
  | 0, _, h => h
  | i + 1, hi, h => by
    unfold lowI
    split
    · omega
    · exact lowI_lt i (by omega) h
theorem highI_lt {ps : List Pr} : ∀ i, i ≤ ps.length → 0 < ps.length → highI ps i < ps.length
  | 0, _, h => h
  | i + 1, hi, h => by
    unfold highI
    split
    · omega
    · exact highI_lt i (by omega) h
section
variable {P : Program} {w : World} {K : PySem.W.Frag} {mg : Str → Option Value} {base : Heap}
theorem spNeed.mono {vs : List V} {H : Hp} {Q Q' : VK} {E : XK} (h : spNeed K vs H Q E) (k : ∀ v H', Q v H' → Q' v H') : spNeed K vs H Q' E := by
  obtain ⟨v, n, e, h⟩ := h
  refine ⟨v, n, e, ?_⟩
  rcases h with h | ⟨a, o, xs, bs, h1, h2, h3, h4, h5, h6, h7⟩
  · exact .inl h
  · exact .inr ⟨a, o, xs, bs, h1, h2, h3, h4, h5, h6, fun a b H' s => k _ _ (h7 a b H' s)⟩
theorem Nums.get {R : Addr} {H : Hp} {a : Addr} {o : HO} {xs : List V} {ps : List (Int × Int)} (h : Nums R H a o xs ps) {i : Nat} (hi : i < ps.length) : ∃ x, xs[i]? = some x ∧ NumAt R H x (ps.getD i (0, 1)).1 (ps.getD i (0, 1)).2 ∧ ps.getD i (0, 1) ∈ ps := by
  have hx : xs[i]? = some (xs[i]'(by have := h.len; omega)) := by simp [show i < xs.length by have := h.len; omega]
  obtain ⟨p, q, e, hn⟩ := h.num i _ hx
  refine ⟨_, hx, ?_, ?_⟩
  · simp [List.getD, e]; exact hn
  · simp [List.getD, e]; exact List.mem_of_getElem? e
/-- total -/
def spTotal (K : PySem.W.Frag) : Sp := fun vs H Q E => ∃ v, vs = [v] ∧ (spNeed K [v, .int 0] H (fun _ _ => False) E ∨ ∃ a o xs ps, v = .ref a ∧ Nums (ga K "Ratio") H a o xs ps ∧ xs.length ≤ 20 ∧ (∀ p ∈ ps, Fine p) ∧
  ∀ c H', Same H H' → RatAt (ga K "Ratio") H' c (totI ps ps.length).1 (totI ps ps.length).2 → Q (.ref c) H')
theorem okd_total (T : TX K mg) : FnD P w K mg base 7 (ga K "total") ["numbers"] (spTotal K) d_total.name d_total.qual d_total.params d_total.body d_total.scope := by
  refine fnD_of (T.d 24) sc_total (fun vs H Q E h => ?_) (fun cdv A outer s H vs Q E hr h => ?_)
  · obtain ⟨v, rfl, _⟩ := h; rfl
  · obtain ⟨v, rfl, k⟩ := h
    refine ⟨_, pss_cons (ps_expr (pe_callR (ok_need_numbers T) (hr.mono (by decide)) (T.kg 23) (by rfl) (T.g 8) (passes_call (takes_of rfl rfl rfl rfl) (fun _ _ _ _ h => h)) (pa_cons (pv 0) (pa_cons pe_int pa_nil)))) (pss_cons (ps_set (i := 1) sc_total.nd rfl (.inl rfl) (pe_ratio1 T (hr.mono (by decide)) (by rfl) (T.g 30) passL (pa_cons pe_int pa_nil))) (pss_cons (ps_for (passes_of rfl) rfl (pi_seq (pv 0)) (pg_name (i := 2) sc_total.nd rfl (.inl rfl)) (pss_one (ps_set (i := 1) sc_total.nd rfl (.inl rfl) (pe_op (op_binSl (nm := "add") rfl (x_r T).add (ok_Ratio___add__ T) (hr.mono (by decide)) passL) (pv 1) (pv 2))))) (pss_one (ps_ret (pv 1))))), ?_⟩
    rcases k with k | ⟨a, o, xs, ps, rfl, N, hl, hf, k⟩
    · exact ⟨_, rfl, k.mono fun _ _ z => z.elim⟩
    · refine ⟨_, rfl, N.need (by omega) (by omega) fun H1 s1 => ?_⟩
      refine rd_ratio1 fun c H2 s2 hc => ?_
      refine rd_seqV rfl N.ho ((s1.trans s2) _ _ N.at_) fun J W => ?_
      refine for_it W (fun i σ H3 => Same H H3 ∧ ∃ b z, σ = [some (.ref a), some (.ref b), z] ∧ RatAt (ga K "Ratio") H3 b (totI ps i).1 (totI ps i).2) ⟨s1.trans s2, c, none, rfl, hc⟩ (fun i σ H3 _ h3 => h3.1 _ _ N.at_) ?_ ?_
      · rintro i x σ H3 _ hi ⟨s3, b, z, rfl, dx, hb⟩ ⟨rfl, hx⟩
        have N3 := N.same s3
        have hi' : i < ps.length := by have := N.len; omega
        obtain ⟨x', hx', hn, hm⟩ := N3.get hi'
        rw [hx] at hx'; cases hx'
        obtain ⟨l1, b1, b2⟩ := totI_ok ps hf i (Nat.le_of_lt hi')
        obtain ⟨l2, b3, b4⟩ := hf _ hm
        refine ⟨_, rfl, _, rfl, b, dx, _, rfl, hb, hn.like, b, x, _, _, _, _, rfl, ⟨dx, hb⟩, hn, b1.mono (by omega), b2.mono (by omega), b3.mono (by omega), b4.mono (by omega), l1.ne, l2.ne, fun c' H4 s4 hc' => ?_⟩
        exact ⟨s3.trans s4, c', _, rfl, hc'⟩
      · rintro σ H3 ⟨s3, b, z, rfl, hb⟩
        rw [← N.len] at hb
        exact ⟨_, rfl, k b H3 s3 hb⟩
theorem ok_total (T : TX K mg) : FnR P w K mg base (L2.CX P w) 7 (ga K "total") (spTotal K) := (okd_total T).r (fun _ _ _ _ _ _ us hl => match us, hl with | [_], _ => rfl)
theorem okk_total (T : TX K mg) : FnKw P w K mg base 7 (ga K "total") 0 ["numbers"] (spTotal K) := (okd_total T).kw 0 ["numbers"] rfl (fun _ _ _ _ _ _ us ws h1 h2 => match us, ws, h1, h2 with | [], [_], _, _ => rfl)
/-- least, greatest: the place -/
def spPlace (K : PySem.W.Frag) (f : List Pr → Nat → Nat) : Sp := fun vs H Q E => ∃ v, vs = [v] ∧ (spNeed K [v, .int 1] H (fun _ _ => False) E ∨ ∃ a o xs ps, v = .ref a ∧ Nums (ga K "Ratio") H a o xs ps ∧ 0 < xs.length ∧ xs.length ≤ 20 ∧ (∀ p ∈ ps, Fine p) ∧
  ∀ H', Same H H' → Q (.int (f ps ps.length : Nat)) H')
theorem okd_least (T : TX K mg) : FnD P w K mg base 7 (ga K "least") ["numbers"] (spPlace K lowI) d_least.name d_least.qual d_least.params d_least.body d_least.scope := by
  refine fnD_of (T.d 25) sc_least (fun vs H Q E h => ?_) (fun cdv A outer s H vs Q E hr h => ?_)
  · obtain ⟨v, rfl, _⟩ := h; rfl
  · obtain ⟨v, rfl, k⟩ := h
    refine ⟨_, pss_cons (ps_expr (pe_callR (ok_need_numbers T) (hr.mono (by decide)) (T.kg 23) (by rfl) (T.g 8) (passes_call (takes_of rfl rfl rfl rfl) (fun _ _ _ _ h => h)) (pa_cons (pv 0) (pa_cons pe_int pa_nil)))) (pss_cons (ps_set (i := 1) sc_least.nd rfl (.inl rfl) pe_int) (pss_cons (ps_for (passes_of rfl) rfl (pi_enumS (by rfl) (T.f 35) (pa_cons (pv 0) pa_nil)) (pg_tup rfl (pgs_cons (pg_name (i := 2) sc_least.nd rfl (.inl rfl)) (pgs_cons (pg_name (i := 3) sc_least.nd rfl (.inl rfl)) pgs_nil))) (pss_one (ps_if (pt_val (SlX.pe_methSl (pe_callR (ok_as_ratio T) (hr.mono (by decide)) (T.kg 22) (by rfl) (T.g 7) passL (pa_cons (pv 3) pa_nil)) (x_r T).cl (x_r T).below (ok_Ratio_below T) (hr.mono (by decide)) passL (pa_cons (pe_ix ix_seq (pv 0) (pv 1) (fun _ _ => rfl)) pa_nil))) (pss_one (ps_set (i := 1) sc_least.nd rfl (.inl rfl) (pv 2))) (pss_nil)))) (pss_one (ps_ret (pv 1))))), ?_⟩
    rcases k with k | ⟨a, o, xs, ps, rfl, N, hl0, hl, hf, k⟩
    · exact ⟨_, rfl, k.mono fun _ _ z => z.elim⟩
    · refine ⟨_, rfl, N.need (by omega) (by omega) fun H1 s1 => ?_⟩
      refine rd_enumV rfl N.ho (s1 _ _ N.at_) fun J W => ?_
      refine for_it W (fun i σ H3 => Same H H3 ∧ ∃ z1 z2, σ = [some (.ref a), some (.int (lowI ps i : Nat)), z1, z2]) ⟨s1, none, none, rfl⟩ (fun i σ H3 _ h3 => h3.1 _ _ N.at_) ?_ ?_
      · rintro i x σ H3 _ hi ⟨s3, z1, z2, rfl⟩ ⟨t, x1, x2, rfl, nt, rfl, e1, hx⟩
        cases e1
        have hx : xs[i]? = some x2 := hx
        have s4 : Same H (upd H3 t (.tup [.int (i : Nat), x2])) := s3.trans (same_new nt)
        have N4 := N.same s4
        have hi' : i < ps.length := by have := N.len; omega
        obtain ⟨x', hx', hn, hm⟩ := N4.get hi'
        rw [hx] at hx'; cases hx'
        have hp := lowI_lt (ps := ps) i (Nat.le_of_lt hi') (by omega)
        obtain ⟨y, hy, hny, hmy⟩ := N4.get hp
        obtain ⟨l2, b3, b4⟩ := hf _ hm
        obtain ⟨l3, b5, b6⟩ := hf _ hmy
        refine ⟨t, _, rfl, SqT.of upd_same, rfl, _, _, rfl, _, _, rfl, rfl, ?_⟩
        refine ⟨_, rfl, x2, rfl, .inr ⟨_, _, hn, l2.ne, b4.mono (by decide), fun c H5 s5 hc => ?_⟩⟩
        rw [nrm_of_low l2] at hc
        obtain ⟨dc, hc⟩ := hc
        refine ⟨c, dc, _, rfl, hc, _, rfl, _, rfl, rd_ixO (s5 _ _ N4.at_) N4.ho (atI_nat hy) ?_⟩
        refine ⟨c, y, _, _, _, _, rfl, ⟨dc, hc⟩, hny.same s5, b3.mono (by decide), b4.mono (by decide), b5.mono (by decide), b6.mono (by decide), fun H6 s6 => ⟨_, rfl, ?_⟩⟩
        have s7 := (s4.trans s5).trans s6
        refine ite2 (fun hc => ?_) (fun hc => ?_)
        · refine ⟨_, rfl, s7, some (.int (i : Nat)), some x2, ?_⟩
          have e : lowI ps (i + 1) = i := by
            exact if_pos hc
          rw [e]; rfl
        · refine ⟨s7, some (.int (i : Nat)), some x2, ?_⟩
          have e : lowI ps (i + 1) = lowI ps i := by
            exact if_neg hc
          rw [e]; rfl
      · rintro σ H3 ⟨s3, z1, z2, rfl⟩
        have k' := k H3 s3
        rw [N.len] at k'
        exact ⟨_, rfl, k'⟩
theorem ok_least (T : TX K mg) : FnR P w K mg base (L2.CX P w) 7 (ga K "least") (spPlace K lowI) := (okd_least T).r (fun _ _ _ _ _ _ us hl => match us, hl with | [_], _ => rfl)
theorem okk_least (T : TX K mg) : FnKw P w K mg base 7 (ga K "least") 0 ["numbers"] (spPlace K lowI) := (okd_least T).kw 0 ["numbers"] rfl (fun _ _ _ _ _ _ us ws h1 h2 => match us, ws, h1, h2 with | [], [_], _, _ => rfl)
theorem okd_greatest (T : TX K mg) : FnD P w K mg base 7 (ga K "greatest") ["numbers"] (spPlace K highI) d_greatest.name d_greatest.qual d_greatest.params d_greatest.body d_greatest.scope := by
  refine fnD_of (T.d 26) sc_greatest (fun vs H Q E h => ?_) (fun cdv A outer s H vs Q E hr h => ?_)
  · obtain ⟨v, rfl, _⟩ := h; rfl
  · obtain ⟨v, rfl, k⟩ := h
    refine ⟨_, pss_cons (ps_expr (pe_callR (ok_need_numbers T) (hr.mono (by decide)) (T.kg 23) (by rfl) (T.g 8) (passes_call (takes_of rfl rfl rfl rfl) (fun _ _ _ _ h => h)) (pa_cons (pv 0) (pa_cons pe_int pa_nil)))) (pss_cons (ps_set (i := 1) sc_greatest.nd rfl (.inl rfl) pe_int) (pss_cons (ps_for (passes_of rfl) rfl (pi_enumS (by rfl) (T.f 35) (pa_cons (pv 0) pa_nil)) (pg_tup rfl (pgs_cons (pg_name (i := 2) sc_greatest.nd rfl (.inl rfl)) (pgs_cons (pg_name (i := 3) sc_greatest.nd rfl (.inl rfl)) pgs_nil))) (pss_one (ps_if (pt_val (SlX.pe_methSl (pe_callR (ok_as_ratio T) (hr.mono (by decide)) (T.kg 22) (by rfl) (T.g 7) passL (pa_cons (pe_ix ix_seq (pv 0) (pv 1) (fun _ _ => rfl)) pa_nil)) (x_r T).cl (x_r T).below (ok_Ratio_below T) (hr.mono (by decide)) passL (pa_cons (pv 3) pa_nil))) (pss_one (ps_set (i := 1) sc_greatest.nd rfl (.inl rfl) (pv 2))) (pss_nil)))) (pss_one (ps_ret (pv 1))))), ?_⟩
    rcases k with k | ⟨a, o, xs, ps, rfl, N, hl0, hl, hf, k⟩
    · exact ⟨_, rfl, k.mono fun _ _ z => z.elim⟩
    · refine ⟨_, rfl, N.need (by omega) (by omega) fun H1 s1 => ?_⟩
      refine rd_enumV rfl N.ho (s1 _ _ N.at_) fun J W => ?_
      refine for_it W (fun i σ H3 => Same H H3 ∧ ∃ z1 z2, σ = [some (.ref a), some (.int (highI ps i : Nat)), z1, z2]) ⟨s1, none, none, rfl⟩ (fun i σ H3 _ h3 => h3.1 _ _ N.at_) ?_ ?_
      · rintro i x σ H3 _ hi ⟨s3, z1, z2, rfl⟩ ⟨t, x1, x2, rfl, nt, rfl, e1, hx⟩
        cases e1
        have hx : xs[i]? = some x2 := hx
        have s4 : Same H (upd H3 t (.tup [.int (i : Nat), x2])) := s3.trans (same_new nt)
        have N4 := N.same s4
        have hi' : i < ps.length := by have := N.len; omega
        obtain ⟨x', hx', hn, hm⟩ := N4.get hi'
        rw [hx] at hx'; cases hx'
        have hp := highI_lt (ps := ps) i (Nat.le_of_lt hi') (by omega)
        obtain ⟨y, hy, hny, hmy⟩ := N4.get hp
        obtain ⟨l2, b3, b4⟩ := hf _ hm
        obtain ⟨l3, b5, b6⟩ := hf _ hmy
        refine ⟨t, _, rfl, SqT.of upd_same, rfl, _, _, rfl, _, _, rfl, rfl, ?_⟩
        refine ⟨_, rfl, _, rfl, rd_ixO N4.at_ N4.ho (atI_nat hy) ?_⟩
        refine ⟨y, rfl, .inr ⟨_, _, hny, l3.ne, b6.mono (by decide), fun c H5 s5 hc => ?_⟩⟩
        rw [nrm_of_low l3] at hc
        obtain ⟨dc, hc⟩ := hc
        refine ⟨c, dc, _, rfl, hc, _, rfl, ?_⟩
        refine ⟨c, x2, _, _, _, _, rfl, ⟨dc, hc⟩, hn.same s5, b5.mono (by decide), b6.mono (by decide), b3.mono (by decide), b4.mono (by decide), fun H6 s6 => ⟨_, rfl, ?_⟩⟩
        have s7 := (s4.trans s5).trans s6
        refine ite2 (fun hc => ?_) (fun hc => ?_)
        · refine ⟨_, rfl, s7, some (.int (i : Nat)), some x2, ?_⟩
          have e : highI ps (i + 1) = i := by
            exact if_pos hc
          rw [e]; rfl
        · refine ⟨s7, some (.int (i : Nat)), some x2, ?_⟩
          have e : highI ps (i + 1) = highI ps i := by
            exact if_neg hc
          rw [e]; rfl
      · rintro σ H3 ⟨s3, z1, z2, rfl⟩
        have k' := k H3 s3
        rw [N.len] at k'
        exact ⟨_, rfl, k'⟩
theorem ok_greatest (T : TX K mg) : FnR P w K mg base (L2.CX P w) 7 (ga K "greatest") (spPlace K highI) := (okd_greatest T).r (fun _ _ _ _ _ _ us hl => match us, hl with | [_], _ => rfl)
theorem okk_greatest (T : TX K mg) : FnKw P w K mg base 7 (ga K "greatest") 0 ["numbers"] (spPlace K highI) := (okd_greatest T).kw 0 ["numbers"] rfl (fun _ _ _ _ _ _ us ws h1 h2 => match us, ws, h1, h2 with | [], [_], _, _ => rfl)
end
end Lw
set_option Elab.async false
set_option linter.all false
set_option maxRecDepth 100000
set_option maxHeartbeats 4000000
/-! The law's small defs: cells, bags, pairs. -/
namespace Lw
open PySem PySem.Spec PyProof.Rows L2 He Wl
theorem mulS {i j : Int} (ha : i.natAbs < 2 ^ 64) (hb : j.natAbs < 2 ^ 64) : CMulW i j := wide_mul ha hb (by decide) (by decide) (by decide)
/-- a bag stands at b; at most n things were mixed -/
def Bag (H : Hp) (b : Addr) (n : Int) : Prop := ∃ w0 w1 c, H b = some (.lst [.int w0, .int w1, .int c]) ∧ 0 ≤ w0 ∧ 0 ≤ w1 ∧ w1 < 2147483629 ∧ 0 ≤ c ∧ c ≤ n
theorem Bag.same {H H' : Hp} {b : Addr} {n : Int} (s : Same H H') (h : Bag H b n) : Bag H' b n := by
  obtain ⟨w0, w1, c, e, r⟩ := h
  exact ⟨w0, w1, c, s _ _ e, r⟩
theorem Bag.mono {H : Hp} {b : Addr} {m n : Int} (h : Bag H b m) (l : m ≤ n) : Bag H b n := by
  obtain ⟨w0, w1, c, e, h1, h2, h3, h4, h5⟩ := h
  exact ⟨w0, w1, c, e, h1, h2, h3, h4, by omega⟩
/-- what is no list stays -/
theorem sb_keep {H H' : Hp} {b x : Addr} {n : Int} {o : HO} (s : SB b H H') (hb : Bag H b n) (h : H x = some o) (ho : ∀ l, o ≠ .lst l) : H' x = some o := by
  obtain ⟨w0, w1, c, e, _⟩ := hb
  refine s x o h fun z => ?_
  rw [z, e] at h
  exact ho _ (Option.some.inj h).symm
theorem sb_rat {H H' : Hp} {b a R : Addr} {n p q : Int} (s : SB b H H') (hb : Bag H b n) (h : RatAt R H a p q) : RatAt R H' a p q := by
  obtain ⟨dx, h⟩ := h
  refine ⟨dx, ?_⟩
  rcases h with ⟨h1, h2⟩ | ⟨h1, h2⟩
  · exact .inl ⟨sb_keep s hb h1 (fun l z => nomatch z), h2⟩
  · exact .inr ⟨sb_keep s hb h1 (fun l z => nomatch z), sb_keep s hb h2 (fun l z => nomatch z)⟩
theorem sb_num {H H' : Hp} {b R : Addr} {v : V} {n p q : Int} (s : SB b H H') (hb : Bag H b n) (h : NumAt R H v p q) : NumAt R H' v p q := by
  rcases h with h | ⟨a, e, h⟩
  · exact .inl h
  · exact .inr ⟨a, e, sb_rat s hb h⟩
abbrev tupP (p : Pr) : HO := .tup [.int p.1, .int p.2]
theorem sb_pair {H H' : Hp} {b x : Addr} {n : Int} {p : Pr} (s : SB b H H') (hb : Bag H b n) (h : H x = some (tupP p)) : H' x = some (tupP p) := sb_keep s hb h (fun l z => nomatch z)
section
variable {P : Program} {w : World} {K : PySem.W.Frag} {mg : Str → Option Value} {base : Heap}
/-- a cell of the script: any int -/
def spCell (K : PySem.W.Frag) : Sp := fun vs H Q _ => ∃ (a : Addr) (ns : List Int) (j : Nat), vs = [.ref a, .int j] ∧ SqL K H a (ns.map V.int) ∧ j < 100 ∧ ∀ c, Q (.int c) H
theorem okd__law_cell (T : TX K mg) : FnD P w K mg base 1 (ga K "_law_cell") ["_law_script", "_law_index"] (spCell K) d__law_cell.name d__law_cell.qual d__law_cell.params d__law_cell.body d__law_cell.scope := by
  refine fnD_of (T.d 27) sc__law_cell (fun vs H Q E h => ?_) (fun cdv A outer s H vs Q E hr h => ?_)
  · obtain ⟨a, ns, j, rfl, _⟩ := h; rfl
  · obtain ⟨a, ns, j, rfl, ha, hj, k⟩ := h
    refine ⟨_, pss_cons (ps_if (pt_cmpR op_lt (pv 1) (pe_callB call_len_seq (by rfl) (T.f 38) (by decide +kernel) (pa_cons (pv 0) pa_nil)) (nomark _)) (pss_one (ps_ret (pe_ix ix_seq (pv 0) (pv 1) (fun _ _ => rfl)))) (pss_nil)) (pss_one (ps_ret (pe_op op_add (pe_op op_mulW pe_int (pv 1)) pe_int))), ?_⟩
    refine ⟨_, rfl, _, rfl, a, _, rfl, .inl ha, _, _, rfl, rfl, _, rfl, ?_⟩
    refine ite2 (fun hc => ?_) (fun hc => ?_)
    · have hl : j < ns.length := by
        have := of_decide_eq_true hc
        simp only [List.length_map] at this
        omega
      refine ⟨_, rfl, _, rfl, .inl ⟨a, _, _, _, rfl, rfl, ha, atI_cell hl, k _⟩⟩
    · refine ⟨_, rfl, _, _, rfl, rfl, mulS (by decide) (by omega), _, _, rfl, rfl, k _⟩
theorem ok__law_cell (T : TX K mg) : FnR P w K mg base (L2.CX P w) 1 (ga K "_law_cell") (spCell K) := (okd__law_cell T).r (fun _ _ _ _ _ _ us hl => match us, hl with | [_, _], _ => rfl)
def spBag : Sp := fun vs H Q _ => ∃ c, vs = [.int c] ∧ ∀ b H', Same H H' → H b = none → Bag H' b 0 → Q (.ref b) H'
theorem okd__law_bag (T : TX K mg) : FnD P w K mg base 1 (ga K "_law_bag") ["_law_cell_here"] spBag d__law_bag.name d__law_bag.qual d__law_bag.params d__law_bag.body d__law_bag.scope := by
  refine fnD_of (T.d 28) sc__law_bag (fun vs H Q E h => ?_) (fun cdv A outer s H vs Q E hr h => ?_)
  · obtain ⟨c, rfl, _⟩ := h; rfl
  · obtain ⟨c, rfl, k⟩ := h
    refine ⟨_, pss_one (ps_ret (pe_lst (pa_cons (pe_callB (call_max2 rfl) (by rfl) (T.f 40) (by decide +kernel) (pa_cons pe_int (pa_cons (pe_op op_sub (pv 0) (pe_op op_pow pe_int pe_int)) pa_nil))) (pa_cons (pe_op op_mod (pv 0) pe_int) (pa_cons pe_int pa_nil))))), ?_⟩
    refine ⟨_, rfl, _, _, rfl, rfl, ⟨by decide, by decide, by decide⟩, _, _, rfl, rfl, _, _, rfl, ?_⟩
    refine ⟨_, rfl, _, _, rfl, rfl, (by show (0 : Int) < _; decide), sz 3, ?_⟩
    intro l nl; generalize he' : upd _ _ _ = H1; obtain ⟨s1, hl⟩ := new_facts nl he'; clear he'
    refine k l H1 s1 nl ⟨_, _, _, hl, ?_, ?_, ?_, by decide, by decide⟩
    · split <;> omega
    · exact Int.emod_nonneg _ (by decide)
    · exact Int.emod_lt_of_pos _ (by decide)
theorem ok__law_bag (T : TX K mg) : FnR P w K mg base (L2.CX P w) 1 (ga K "_law_bag") spBag := (okd__law_bag T).r (fun _ _ _ _ _ _ us hl => match us, hl with | [_], _ => rfl)
/-- a digit below m -/
def spTake : Sp := fun vs H Q _ => ∃ b n m, vs = [.ref b, .int m] ∧ Bag H b n ∧ n ≤ 100000 ∧ 0 < m ∧ Bd 8000 m ∧ ∀ r H', 0 ≤ r → r < m → SB b H H' → Bag H' b (n + 1) → Q (.int r) H'
theorem okd__law_take (T : TX K mg) : FnD P w K mg base 1 (ga K "_law_take") ["_law_bag_here", "_law_many"] spTake d__law_take.name d__law_take.qual d__law_take.params d__law_take.body d__law_take.scope := by
  refine fnD_of (T.d 29) sc__law_take (fun vs H Q E h => ?_) (fun cdv A outer s H vs Q E hr h => ?_)
  · obtain ⟨b, n, m, rfl, _⟩ := h; rfl
  · obtain ⟨b, n, m, rfl, ⟨w0, w1, c, hb, h0, h1, h2, h3, h4⟩, hn, hm, bm, k⟩ := h
    refine ⟨_, pss_cons (ps_if (pt_cmpR op_gt (pe_ix ix_seq (pv 0) pe_int (fun _ _ => rfl)) pe_int (nomark _)) (pss_cons (ps_set (i := 2) sc__law_take.nd rfl (.inl rfl) (pe_op op_mod (pe_ix ix_seq (pv 0) pe_int (fun _ _ => rfl)) (pv 1))) (pss_cons (ps_asg (pe_op op_fdivW (pe_ix ix_seq (pv 0) pe_int (fun _ _ => rfl)) (pv 1)) (pg_sub (pv 0) pe_int set_list)) (pss_one (ps_ret (pv 2))))) (pss_nil)) (pss_cons (ps_asg (pe_op op_add (pe_ix ix_seq (pv 0) pe_int (fun _ _ => rfl)) pe_int) (pg_sub (pv 0) pe_int set_list)) (pss_cons (ps_set (i := 3) sc__law_take.nd rfl (.inl rfl) (pe_op op_mod (pe_op op_pow (pe_op op_add (pe_op op_add (pe_ix ix_seq (pv 0) pe_int (fun _ _ => rfl)) (pe_op op_mulW pe_int (pe_ix ix_seq (pv 0) pe_int (fun _ _ => rfl)))) pe_int) pe_int) pe_int)) (pss_cons (ps_set (i := 3) sc__law_take.nd rfl (.inl rfl) (pe_op op_mod (pe_op op_pow (pe_op op_add (pv 3) (pe_op op_mulW pe_int (pe_ix ix_seq (pv 0) pe_int (fun _ _ => rfl)))) pe_int) pe_int)) (pss_one (ps_ret (pe_op op_mod (pe_op op_fdivW (pv 3) pe_int) (pv 1))))))), ?_⟩
    refine ⟨_, rfl, rd_ixL hb rfl ?_⟩
    refine ⟨_, _, rfl, rfl, _, rfl, ?_⟩
    have hlm : m.natAbs.log2 < 9000 := Nat.lt_of_lt_of_le (PySem.Flt.log2_lt_of (by decide) bm) (by decide)
    refine ite2 (fun hc => ?_) (fun hc => ?_)
    · have hw : 0 < w0 := of_decide_eq_true hc
      refine ⟨_, rfl, rd_ixL hb rfl ⟨_, rfl, _, _, rfl, rfl, hm, ?_⟩⟩
      refine ⟨_, rfl, rd_ixL hb rfl ⟨_, rfl, _, _, rfl, rfl, ⟨hm, hlm⟩, ?_⟩⟩
      refine ⟨_, rfl, b, _, _, _, rfl, rfl, hb, rfl, ?_⟩
      refine ⟨_, rfl, k _ _ (Int.emod_nonneg _ (by omega)) (Int.emod_lt_of_pos _ hm) SB.upd ⟨_, _, _, upd_same, Int.ediv_nonneg h0 (by omega), h1, h2, h3, by omega⟩⟩
    · have hw : w0 = 0 := by
        have : ¬ 0 < w0 := fun z => hc (decide_eq_true z)
        omega
      refine ⟨_, rfl, rd_ixL hb rfl ⟨_, _, rfl, rfl, _, rfl, b, _, _, _, rfl, rfl, hb, rfl, ?_⟩⟩
      generalize hH1 : upd H b _ = H1
      have hb1 : H1 b = some (.lst [.int w0, .int w1, .int (c + 1)]) := by rw [← hH1]; exact upd_same
      have sb : SB b H H1 := by rw [← hH1]; exact SB.upd
      refine ⟨_, rfl, rd_ixL hb1 rfl ⟨_, rfl, rd_ixL hb1 rfl ⟨_, _, rfl, rfl, mulS (by decide) (by omega), _, _, rfl, rfl, _, _, rfl, rfl, ?_⟩⟩⟩
      refine ⟨_, _, rfl, rfl, ⟨by decide, by decide, by omega⟩, _, _, rfl, rfl, (by show (0 : Int) < _; decide), ?_⟩
      generalize hM : (w1 + 49979687 * (c + 1) + 827) ^ (5 : Int).toNat % 2147483647 = M
      have hM0 : 0 ≤ M := by rw [← hM]; exact Int.emod_nonneg _ (by decide)
      have hM1 : M < 2147483647 := by rw [← hM]; exact Int.emod_lt_of_pos _ (by decide)
      refine ⟨_, rfl, _, rfl, rd_ixL hb1 rfl ⟨_, _, rfl, rfl, mulS (by decide) (by omega), _, _, rfl, rfl, ?_⟩⟩
      refine ⟨_, _, rfl, rfl, ⟨by decide, by decide, by omega⟩, _, _, rfl, rfl, (by show (0 : Int) < _; decide), ?_⟩
      refine ⟨_, rfl, _, _, rfl, rfl, ⟨by decide, by decide⟩, _, rfl, _, _, rfl, rfl, hm, ?_⟩
      exact k _ _ (Int.emod_nonneg _ (by omega)) (Int.emod_lt_of_pos _ hm) sb ⟨_, _, _, hb1, h0, h1, h2, by omega, by omega⟩
theorem ok__law_take (T : TX K mg) : FnR P w K mg base (L2.CX P w) 1 (ga K "_law_take") spTake := (okd__law_take T).r (fun _ _ _ _ _ _ us hl => match us, hl with | [_, _], _ => rfl)
end
end Lw
set_option Elab.async false
set_option linter.all false
set_option maxRecDepth 100000
set_option maxHeartbeats 4000000
/-! Texts of ratios. -/
namespace Lw
open PySem PySem.Spec PyProof.Rows L2 He Wl SX
section
variable {P : Program} {w : World} {K : PySem.W.Frag} {mg : Str → Option Value} {base : Heap}
theorem ok_InvalidText___init__ (T : TX K mg) : FnR P w K mg base (L2.CX P w) 1 (ma K (ga K "InvalidText") "__init__") (spExc1 (ga K "InvalidText") "value") := by
  refine fnR_of (T.d 2) sc_InvalidText___init__ (fun vs H Q E h => ?_) (fun _ _ _ _ _ _ us hl => match us, hl with | [_, _], _ => rfl) (fun cdv A outer s H vs Q E hr h => ?_)
  · obtain ⟨a, v, rfl, _⟩ := h; rfl
  · obtain ⟨a, v, rfl, ha, k⟩ := h
    refine ⟨_, pss_cons (ps_expr (pe_clsinit (x_b T) (by rfl) (T.g 26) (pa_cons (pv 0) (pa_cons pe_str pa_nil)))) (pss_one (ps_ost (pv 0) (pv 1))), ?_⟩
    refine ⟨_, rfl, a, ga K "InvalidText", _, rfl, (by decide), (x_it T).o, ha, ?_⟩
    exact ⟨_, rfl, _, rfl, a, _, rfl, (x_it T).o, (x_it T).n, .inl ⟨ha, fun d hd hda => k d hd hda⟩⟩
theorem log_of {x : Int} {n : Nat} (h : Bd n x) (h0 : 0 < n) (hn : n ≤ 1920) : x.natAbs.log2 < 1920 := Nat.lt_of_lt_of_le (PySem.Flt.log2_lt_of h0 h) hn
/-- the text of a quotient -/
structure SpText (K : PySem.W.Frag) (vs : List V) (H : Hp) (Q : VK) (E : XK) : Prop where
  h : ∃ a p q, vs = [.ref a] ∧ RatAt (ga K "Ratio") H a p q ∧ Bd 1900 p ∧ Bd 1900 q ∧ (intL p).length ≤ 10000 ∧ (intL q).length ≤ 10000 ∧ Q (.str (S (ratL (p, q)))) H
theorem okd_Ratio_text (T : TX K mg) : FnD P w K mg base 1 (ma K (ga K "Ratio") "text") ["self"] (SpText K) d_Ratio_text.name d_Ratio_text.qual d_Ratio_text.params d_Ratio_text.body d_Ratio_text.scope := by
  refine fnD_of (T.d 20) sc_Ratio_text (fun vs H Q E h => ?_) (fun cdv A outer s H vs Q E hr h => ?_)
  · obtain ⟨a, p, q, rfl, _⟩ := h; rfl
  · obtain ⟨a, p, q, rfl, ⟨dx, ha⟩, bp, bq, lp, lq, k⟩ := h
    refine ⟨_, pss_one (ps_ret (pe_ifExp (pt_cmpR op_eq (SlX.pe_sl (pv 0)) pe_int (nomark _)) (pe_callTy call_str_int (by rfl) (T.f 44) (by decide +kernel) (pa_cons (SlX.pe_sl (pv 0)) pa_nil)) (pe_joined (.cons (pe_fmt (SlX.pe_sl (pv 0))) (.cons pe_str (.cons (pe_fmt (SlX.pe_sl (pv 0))) .nil)))))), ?_⟩
    refine ⟨_, rfl, a, _, dx, _, _, _, _, rfl, ha, (x_r T).cl, (x_r T).dn, rfl, rfl, _, rfl, ?_⟩
    refine ite2 (fun hc => ?_) (fun hc => ?_)
    · have hq : q = 1 := by simpa using hc
      refine ⟨_, rfl, a, _, dx, _, _, _, _, rfl, ha, (x_r T).cl, (x_r T).up, rfl, _, rfl, log_of bp (by decide) (by decide), ?_⟩
      have e : ratL (p, q) = intL p := if_pos hq
      rw [e, ← str_S] at k
      exact k
    · have hq : q ≠ 1 := fun z => hc (by simp [z])
      have e1 : Str.empty ++ Str.ofString (toString p) = S (intL p) := by rw [str_S]; exact S_cat [] (intL p)
      have e2 : S (intL p) ++ Str.ofString "/" = S (intL p ++ [47]) := S_cat (intL p) [47]
      have e3 : S (intL p ++ [47]) ++ Str.ofString (toString q) = S (ratL (p, q)) := by
        rw [str_S, S_cat]
        congr 1
        show _ = if q = 1 then _ else _
        rw [if_neg hq]
        simp
      have z : 30000 ≤ sizeLine := by decide
      refine ⟨_, rfl, a, _, dx, _, _, _, _, rfl, ha, (x_r T).cl, (x_r T).up, rfl, .inr ⟨_, rfl, log_of bp (by decide) (by decide), _, rfl, ?_, ?_⟩⟩
      · rw [e1, S_len]; omega
      rw [e1]
      refine ⟨_, rfl, ?_, ?_⟩
      · rw [e2, S_len, List.length_append]; simp; omega
      rw [e2]
      refine ⟨_, rfl, a, _, dx, _, _, _, _, rfl, ha, (x_r T).cl, (x_r T).dn, rfl, .inr ⟨_, rfl, log_of bq (by decide) (by decide), _, rfl, ?_, ?_⟩⟩
      · rw [e3, S_len]
        have : ratL (p, q) = intL p ++ 47 :: intL q := if_neg hq
        rw [this, List.length_append, List.length_cons]; omega
      · rw [e3]; exact k
theorem ok_Ratio_text (T : TX K mg) : FnR P w K mg base (L2.CX P w) 1 (ma K (ga K "Ratio") "text") (SpText K) := (okd_Ratio_text T).r (fun _ _ _ _ _ _ us hl => match us, hl with | [_], _ => rfl)
/-- the number of a word -/
def numV (o : Option Int) : V := match o with
  | some n => .int n
  | none => .non
theorem in_digits (c : Nat) : (!(!(Builtin.Str.occurrences (Str.ofString "0123456789") ⟨#[c]⟩ 0 (Str.ofString "0123456789").length 1).isEmpty)) = !(decide (48 ≤ c) && decide (c ≤ 57)) := by
  have e : Str.ofString "0123456789" = S [48, 49, 50, 51, 52, 53, 54, 55, 56, 57] := by decide +kernel
  rw [e]
  have z := in_one [48, 49, 50, 51, 52, 53, 54, 55, 56, 57] c
  rw [show (⟨#[c]⟩ : Str) = S [c] from rfl, z]
  congr 1
  rw [Bool.eq_iff_iff]
  simp only [decide_eq_true_eq, Bool.and_eq_true, List.mem_cons, List.not_mem_nil, or_false]
  omega
structure SpNumIn (vs : List V) (H : Hp) (Q : VK) (E : XK) : Prop where
  h : ∃ l, vs = [.str (S l)] ∧ l.length ≤ 100 ∧ ∀ H', Same H H' → Q (numV (numOf l)) H'
theorem okd_number_in (T : TX K mg) : FnD P w K mg base 1 (ga K "number_in") ["text"] SpNumIn d_number_in.name d_number_in.qual d_number_in.params d_number_in.body d_number_in.scope := by
  refine fnD_of (T.d 8) sc_number_in (fun vs H Q E h => ?_) (fun cdv A outer s H vs Q E hr h => ?_)
  · obtain ⟨l, rfl, _⟩ := h; rfl
  · obtain ⟨l, rfl, hl, k⟩ := h
    refine ⟨_, C8.pss_cut (ps_set (i := 1) sc_number_in.nd rfl (.inl rfl) (pe_ifExp (pt_cmpR op_eq (pe_slice C8.sl_txt (pv 0) po_none (po_some pe_int)) pe_str (nomark _)) (pe_slice C8.sl_txt (pv 0) (po_some pe_int) po_none) (pv 0))) (pss_cons (ps_if (PW.pt (pw_or (pt_cmpR op_eq (pv 1) pe_str (nomark _)) (pw_or1 (pt_val (pe_callB (cr_any rfl) (by rfl) (T.f 32) (by decide +kernel) (pa_cons (pe_lc (own := [("sign", 2)]) (by rfl) sc_number_in.nd (pi_str (pv 1)) (blkOk_by (own := [("sign", 2)]) (N := ["text", "figures", "sign", "number"]) (sc := defScope s_number_in) (by decide +kernel)) (fun _ _ _ _ _ => (pg_name (i := 2) sc_number_in.nd rfl (.inl rfl))) (fun _ _ _ _ _ => pts_nil) (fun _ _ _ _ _ => (pe_cmpR op_notin_str (pv 2) (T.cstr 47) (by rfl)))) pa_nil)))))) (pss_one (ps_ret pe_non)) (pss_nil)) (pss_cons (ps_set (i := 3) sc_number_in.nd rfl (.inl rfl) (pe_callTy call_int_str (by rfl) (T.f 36) (by decide +kernel) (pa_cons (pv 0) pa_nil))) (pss_one (ps_ret (pe_ifExp (pt_cmpR op_eq (pe_callTy call_str_int (by rfl) (T.f 44) (by decide +kernel) (pa_cons (pv 3) pa_nil)) (pv 0) (nomark _)) (pv 3) pe_non))))), ?_⟩
    have z : 30000 ≤ sizeLine := by decide
    have hz : (S l).length ≤ sizeLine := by rw [S_len]; omega
    have c1 : Txt.slice (S l) none (some 1) = S (l.take 1) := slice_to (by decide)
    have c2 : Txt.slice (S l) (some 1) none = S (l.drop 1) := slice_from (by decide)
    refine ⟨fun σ' H' => H' = H ∧ σ' = [some (.str (S l)), some (.str (S (figs l))), none, none], ?_, ?_⟩
    · refine ⟨_, rfl, _, rfl, _, rfl, hz, ?_⟩
      rw [c1]
      refine ⟨rfl, _, rfl, ?_⟩
      have e45 : Str.ofString "-" = S [45] := by decide +kernel
      refine ite2 (fun hc => ?_) (fun hc => ?_)
      · have e : l.take 1 = [45] := by
          have : S (l.take 1) = Str.ofString "-" := by simpa using hc
          rw [e45] at this
          exact S_inj this
        refine ⟨_, rfl, _, rfl, _, rfl, hz, ?_⟩
        rw [c2]
        have e2 : figs l = l.drop 1 := by
          cases l with
          | nil => cases e
          | cons c r => cases e; rfl
        exact ⟨rfl, by rw [e2]; rfl⟩
      · have e2 : figs l = l := by
          unfold figs; split
          · rename_i r
            exact absurd (by rw [e45]; simp) hc
          · rfl
        exact ⟨_, rfl, rfl, by rw [e2]; rfl⟩
    · rintro σ' H' ⟨rfl, rfl⟩
      refine ⟨_, rfl, rfl, _, rfl, ?_⟩
      refine ite2 (fun hc => ?_) (fun hc => ?_)
      · have e : figs l = [] := by
          have : S (figs l) = Str.ofString "" := by simpa using hc
          exact S_inj (this.trans (by decide +kernel : Str.ofString "" = S []))
        have k' := k H' fun _ _ e => e
        rw [numOf_odd (.inl e)] at k'
        exact k'
      · have hne : figs l ≠ [] := fun e => hc (by rw [e]; rfl)
        refine ⟨_, rfl, _, rfl, fun D nD => ?_⟩
        refine lc_it walk_str (fun i H2 => Same H' H2 ∧ H2 D = some (.lst (((figs l).take i).map fun c => V.bl (!(decide (48 ≤ c) && decide (c ≤ 57)))))) ⟨same_new nD, upd_same⟩ (fun _ _ _ _ => trivial) ?_ ?_
        · rintro i x H2 _ hi ⟨s2, hD⟩ ⟨rfl, c, hc', rfl⟩
          have hc2 : (figs l)[i]? = some c := by simpa using hc'
          have hi2 : i < (figs l).length := (List.getElem?_eq_some_iff.mp hc2).1
          refine ⟨rfl, _, rfl, _, _, rfl, rfl, ?_⟩
          refine ⟨_, hD, ?_, same_upd nD s2, ?_⟩
          · rw [List.length_map, List.length_take]
            have : (figs l).length ≤ l.length := by
              unfold figs; split
              · simp
              · exact Nat.le_refl _
            exact Nat.lt_of_le_of_lt (Nat.min_le_right _ _) (by omega)
          · rw [upd_same, List.take_add_one, hc2, in_digits]
            simp
        · rintro H2 ⟨s2, hD⟩
          have hsz : (S (figs l)).cps.size = (figs l).length := by simp
          rw [hsz, List.take_length] at hD
          refine ⟨D, (figs l).map fun c => !(decide (48 ≤ c) && decide (c ≤ 57)), rfl, SqL.of (by rw [hD, List.map_map]; rfl), _, rfl, ?_⟩
          refine ite2 (fun hc => ?_) (fun hc => ?_)
          · have e : digB (figs l) = false := by
              unfold digB
              rw [List.any_map] at hc
              cases q : (figs l).all fun c => decide (48 ≤ c) && decide (c ≤ 57) with
              | false => rfl
              | true =>
                obtain ⟨c, hm, hcc⟩ := List.any_eq_true.mp hc
                have := List.all_eq_true.mp q c hm
                simp only [Function.comp, id] at hcc
                rw [this] at hcc; cases hcc
            have k' := k H2 s2
            rw [numOf_odd (.inr e)] at k'
            exact k'
          · have e : digB (figs l) = true := by
              unfold digB
              rw [List.any_map] at hc
              refine List.all_eq_true.mpr fun c hm => ?_
              cases q : (decide (48 ≤ c) && decide (c ≤ 57)) with
              | true => rfl
              | false => exact absurd (List.any_eq_true.mpr ⟨c, hm, by simp only [Function.comp, id]; rw [q]; rfl⟩) hc
            have bd := valL_bd e hl
            refine ⟨_, rfl, _, _, rfl, int_valL e hne (by omega), by rw [S_len]; omega, ?_⟩
            refine ⟨_, rfl, _, rfl, log_of bd (by decide) (by decide), _, rfl, rfl, _, rfl, ?_⟩
            have k' := k H2 s2
            unfold Wl.numOf at k'
            refine ite2 (fun hc => ?_) (fun hc => ?_)
            · have e3 : intL (valL l) = l := by
                have : Str.ofString (toString (valL l)) = S l := by simpa using hc
                rw [str_S] at this
                exact S_inj this
              rw [if_pos e3] at k'
              exact ⟨_, rfl, k'⟩
            · have e3 : intL (valL l) ≠ l := fun z => hc (by rw [str_S, z]; simp)
              rw [if_neg e3] at k'
              exact k'
theorem ok_number_in (T : TX K mg) : FnR P w K mg base (L2.CX P w) 1 (ga K "number_in") SpNumIn := (okd_number_in T).r (fun _ _ _ _ _ _ us hl => match us, hl with | [_], _ => rfl)
theorem k_str (T : TX K mg) {t : Value} (h : OkT (ga K "Ratio") t) : PySem.W.kitOne K t (.type "str") = some (decide (t = .type "str")) := by
  rcases h with rfl | ⟨n, hn, rfl⟩
  · exact (x_m T).2.2.2.2
  · simp only [ordT, List.mem_cons, List.not_mem_nil, or_false] at hn
    rcases hn with rfl | rfl | rfl | rfl | rfl | rfl | rfl <;> exact kit_ty (by decide +kernel)
theorem mkS {K : PySem.W.Frag} {E : XK} : ∀ (vs : List V) (H : Hp) (Q : VK), SpMk K [] vs H Q E → ∀ x dx, H x = none → H dx = none → dx ≠ x → spInit K (.ref x :: vs) (upd (upd H dx (.own x)) x (.ins (ga K "Ratio") dx [])) (fun v H2 => v = .non ∧ Q (.ref x) H2) E := by
  intro vs H Q h x dx e1 e2 e3
  have z := h.raw x dx e1 e2 e3
  rw [List.append_nil] at z; exact z
/-- l is the text of p -/
def Good (l : List Nat) (p : Int × Int) : Prop := Low p.1 p.2 ∧ ratL p = l
theorem Good.words {ps : List (List Nat)} {p : Int × Int} (hne : ps ≠ []) (hf : ∀ p ∈ ps, 47 ∉ p) (h : Good (TL.joinL [47] ps) p) : ps = if p.2 = 1 then [intL p.1] else [intL p.1, intL p.2] := by
  have z := words_rat p
  rw [h.2, spl_of hne hf] at z
  exact z
theorem Good.one {l : List Nat} {p q : Int × Int} (h : Good l p) (h' : Good l q) : p = q := ratL_inj (h.2.trans h'.2.symm)
theorem join_len : ∀ {ps : List (List Nat)} {p : List Nat}, p ∈ ps → p.length ≤ (TL.joinL [47] ps).length
  | [q], p, h => by rw [List.mem_singleton.mp h]; exact Nat.le_refl _
  | q :: r :: ps, p, h => by
    show _ ≤ (q ++ ([47] ++ TL.joinL [47] (r :: ps))).length
    rw [List.length_append, List.length_append]
    rcases List.mem_cons.mp h with rfl | h
    · omega
    · have := join_len h; omega
theorem intL_len {x : Int} (h : Bd 400 x) : (intL x).length ≤ 200 := by
  have z := TL.numL_len (n := x.natAbs) (k := 121) (by decide) (Nat.lt_of_lt_of_le h (by decide +kernel))
  unfold intL
  split
  · rw [List.length_cons]; omega
  · omega
theorem intL_bd {n : Int} (h : (intL n).length ≤ 100) : Bd 400 n := by
  have e := valL_intL n
  have z := valL_bd (w := intL n) (by rw [figs_intL]; exact digB_of (TL.numL_digits _)) h
  rw [e] at z; exact z
theorem join_cnt : ∀ {ps : List (List Nat)}, ps ≠ [] → ps.length ≤ (TL.joinL [47] ps).length + 1
  | [], h => absurd rfl h
  | [q], _ => by simp
  | q :: r :: ps, _ => by
    have := join_cnt (ps := r :: ps) (by simp)
    show _ ≤ (q ++ ([47] ++ TL.joinL [47] (r :: ps))).length + 1
    rw [List.length_append, List.length_append, List.length_cons]
    simp only [List.length_cons, List.length_nil] at *
    omega
theorem split_sl {ps : List (List Nat)} (hne : ps ≠ []) (hf : ∀ p ∈ ps, 47 ∉ p) : Txt.split (S (TL.joinL [47] ps)) (Str.ofString "/") = ps.map S := by
  have e : Str.ofString "/" = S [47] := by decide +kernel
  rw [e, split_S (by decide) (by decide), spl_of hne hf]
def spRead (K : PySem.W.Frag) : Sp := fun vs H Q E => ∃ v, vs = [.ref (ga K "Ratio"), v] ∧ ((∃ t, TyY K (ga K "Ratio") v H t ∧ OkT (ga K "Ratio") t ∧ t ≠ .type "str" ∧ Refused E (ga K "InvalidText") H v) ∨
  ∃ l, v = .str (S l) ∧ l.length ≤ 10000 ∧ ((100 < l.length ∨ ∀ p, ¬ Good l p) → Refused E (ga K "InvalidText") H v) ∧ (l.length ≤ 100 → ∀ p, Good l p → ∀ c H', Same H H' → RatAt (ga K "Ratio") H' c p.1 p.2 → Q (.ref c) H'))
theorem okd_Ratio_read (T : TX K mg) : FnD P w K mg base 6 (recFn K (ma K (ga K "Ratio") "read") "classmethod") ["cls", "text"] (spRead K) d_Ratio_read.name d_Ratio_read.qual d_Ratio_read.params d_Ratio_read.body d_Ratio_read.scope := by
  refine fnD_of (T.d 12) sc_Ratio_read (fun vs H Q E h => ?_) (fun cdv A outer s H vs Q E hr h => ?_)
  · obtain ⟨v, rfl, _⟩ := h; rfl
  · obtain ⟨v, rfl, k⟩ := h
    refine ⟨_, pss_cons (ps_if (PW.pt (pw_or (pt_not (pt_val (pe_callB (call_isiY (x_r T).cl (x_r T).isi) (by rfl) (T.f 37) (by decide +kernel) (pa_cons (pv 1) (pa_cons (pe_bltn (v := .ty "str") (u := .type "str") (by rfl) (T.f 44) (by decide +kernel) rfl) pa_nil))))) (pw_or1 (pt_cmpR op_gt (pe_callB call_len_str (by rfl) (T.f 38) (by decide +kernel) (pa_cons (pv 1) pa_nil)) (T.cint 46) (nomark _))))) (pss_one (ps_raise rfl (takes_of rfl rfl rfl rfl) (pmk_exc (x_it T).o (x_it T).i (ok_InvalidText___init__ T) (hr.mono (by decide)) passL (by rfl) (T.g 28) (pa_cons (pv 1) pa_nil)))) (pss_nil)) (pss_cons (ps_set (i := 2) sc_Ratio_read.nd rfl (.inl rfl) (pe_split (pv 1) pe_str)) (C8.pss_cut (ps_setLc (i := 3) (own := [("word", 4)]) (by rfl) sc_Ratio_read.nd rfl rfl (sw_true rfl rfl rfl (by decide +kernel)) (pi_list (pv 2)) (blkOk_by (own := [("word", 4)]) (N := ["cls", "text", "words", "numbers", "word", "number", "found"]) (sc := defScope s_Ratio_read) (by decide +kernel)) (fun _ _ _ _ _ => (pg_name (i := 4) sc_Ratio_read.nd rfl (.inl rfl))) (fun _ _ _ _ _ => pts_nil) (fun _ _ _ _ _ => (pe_callR (ok_number_in T) (hr.mono (by decide)) (T.kg 8) (by rfl) (T.g 5) passL (pa_cons (pv 4) pa_nil)))) (C8.pss_cut (ps_if (PW.pt (pw_or (pt_cmpR op_gt (pe_callB call_len_seq (by rfl) (T.f 38) (by decide +kernel) (pa_cons (pv 2) pa_nil)) pe_int (nomark _)) (pw_or (pt_val (pe_callB (cr_any rfl) (by rfl) (T.f 32) (by decide +kernel) (pa_cons (pe_lc (own := [("number", 5)]) (by rfl) sc_Ratio_read.nd (pi_list (pv 3)) (blkOk_by (own := [("number", 5)]) (N := ["cls", "text", "words", "numbers", "word", "number", "found"]) (sc := defScope s_Ratio_read) (by decide +kernel)) (fun _ _ _ _ _ => (pg_name (i := 5) sc_Ratio_read.nd rfl (.inl rfl))) (fun _ _ _ _ _ => pts_nil) (fun _ _ _ _ _ => (pe_cmpR op_isN (pv 5) pe_non (nomark _)))) pa_nil))) (pw_or1 (PW.pt (pw_and (pt_cmpR op_eq (pe_ix ix_seq (pv 3) (pe_un un_neg pe_int) (fun _ _ => rfl)) pe_int (nomark _)) (pw_and1 (pt_cmpR op_eq (pe_callB call_len_seq (by rfl) (T.f 38) (by decide +kernel) (pa_cons (pv 2) pa_nil)) pe_int (nomark _))))))))) (pss_one (ps_raise rfl (takes_of rfl rfl rfl rfl) (pmk_exc (x_it T).o (x_it T).i (ok_InvalidText___init__ T) (hr.mono (by decide)) passL (by rfl) (T.g 28) (pa_cons (pv 1) pa_nil)))) (pss_nil)) (pss_cons (ps_set (i := 6) sc_Ratio_read.nd rfl (.inl rfl) (pe_makeV (x_r T).make (ok_Ratio___init__ T) (hr.mono (by decide)) passL (i := 0) rfl (.inl rfl) mkS (pa_cons (pe_ix ix_seq (pv 3) pe_int (fun _ _ => rfl)) (pa_cons (pe_ifExp (pt_cmpR op_eq (pe_callB call_len_seq (by rfl) (T.f 38) (by decide +kernel) (pa_cons (pv 2) pa_nil)) pe_int (nomark _)) (pe_ix ix_seq (pv 3) pe_int (fun _ _ => rfl)) pe_int) pa_nil)))) (pss_cons (ps_if (pt_cmpR op_ne (SlX.pe_methSl0 (pv 6) (x_r T).cl (x_c T).tx (ok_Ratio_text T) (hr.mono (by decide)) passL) (pv 1) (nomark _)) (pss_one (ps_raise rfl (takes_of rfl rfl rfl rfl) (pmk_exc (x_it T).o (x_it T).i (ok_InvalidText___init__ T) (hr.mono (by decide)) passL (by rfl) (T.g 28) (pa_cons (pv 1) pa_nil)))) (pss_nil)) (pss_one (ps_ret (pv 6)))))))), ?_⟩
    have z : 30000 ≤ sizeLine := by decide
    rcases k with ⟨t, ht, ho, hn, k⟩ | ⟨l, rfl, hl, k0, k1⟩
    · refine ⟨_, rfl, v, .ty "str", t, .type "str", _, rfl, .ty _, ht, k_str T ho, _, rfl, ?_⟩
      refine iteT (by simp [hn]) ⟨_, rfl, (by simp), rd_exc1 fun d H3 s3 nd hd => k d H3 s3 nd hd⟩
    · have os : OkT (ga K "Ratio") (.type "str") := .inr ⟨"str", by decide, rfl⟩
      refine ⟨_, rfl, .str (S l), .ty "str", .type "str", .type "str", _, rfl, .ty _, .inl (.base (.str _)), k_str T os, _, rfl, ?_⟩
      refine ⟨_, rfl, _, rfl, by rw [S_len]; omega, ?_⟩
      refine ⟨_, _, rfl, rfl, _, rfl, ?_⟩
      refine ite2 (fun hc => ?_) (fun hc => ?_)
      · have hlen : 100 < l.length := by
          have := of_decide_eq_true hc
          rw [S_len] at this
          omega
        exact ⟨_, rfl, (by simp), rd_exc1 fun d H3 s3 nd hd => k0 (.inl hlen) d H3 s3 nd hd⟩
      · have hlen : l.length ≤ 100 := by
          have : ¬ (100 : Int) < ((S l).length : Int) := fun q => hc (decide_eq_true q)
          rw [S_len] at this
          omega
        have k1 := k1 hlen
        obtain ⟨ps, hne, hfr, rfl⟩ := joined l
        have rz : (∀ p, ¬ Good (TL.joinL [47] ps) p) → ∀ H3, Same H H3 → Refused E (ga K "InvalidText") H3 (.str (S (TL.joinL [47] ps))) := fun q H3 s3 => (k0 (.inr q)).same s3
        have hcnt : ps.length ≤ 101 := by have := join_cnt hne; omega
        refine ⟨_, rfl, ⟨_, rfl⟩, _, _, rfl, rfl, by decide +kernel, by rw [S_len]; omega, ?_⟩
        intro wl nwl; generalize he' : upd _ _ _ = H1; obtain ⟨s1, hwl⟩ := new_facts nwl he'; clear he'
        rw [split_sl hne hfr] at hwl
        -- the numbers
        refine ⟨fun σ' H' => Same H H' ∧ ∃ nl, σ' = [some (.ref (ga K "Ratio")), some (.str (S (TL.joinL [47] ps))), some (.ref wl), some (.ref nl), none, none, none] ∧ H' wl = some (.lst ((ps.map S).map V.str)) ∧ H' nl = some (.lst (ps.map fun p => numV (Wl.numOf p))), ?_, ?_⟩
        · refine ⟨_, rfl, wl, rfl, ⟨_, SqL.of hwl⟩, ?_⟩
          intro D nD
          refine lc_list (K := K) (a := wl) (xs := (ps.map S).map V.str) (fun i H2 => Same H1 H2 ∧ H2 D = some (.lst ((ps.take i).map fun p => numV (Wl.numOf p)))) ⟨same_new nD, upd_same⟩ (fun i H2 _ h2 => SqL.of (h2.1 _ _ hwl)) ?_ ?_
          · rintro i x H2 hx ⟨s2, hD⟩
            rw [List.getElem?_map, List.getElem?_map] at hx
            cases ep : ps[i]? with
            | none => rw [ep] at hx; cases hx
            | some pw =>
              rw [ep] at hx
              cases hx
              have hpl := join_len (List.mem_of_getElem? ep)
              refine ⟨rfl, _, rfl, pw, rfl, by omega, fun H3 s3 => ⟨_, s3 _ _ hD, ?_, same_upd nD (s2.trans s3), ?_⟩⟩
              · rw [List.length_map, List.length_take]
                exact Nat.lt_of_le_of_lt (Nat.min_le_right _ _) (by omega)
              · rw [upd_same, List.take_add_one, ep]
                simp
          · rintro H2 ⟨s2, hD⟩
            refine ⟨s1.trans s2, D, rfl, s2 _ _ hwl, ?_⟩
            rw [hD, List.length_map, List.length_map, List.take_length]
        · rintro σ' H2 ⟨s2, nl, rfl, hw2, hn2⟩
          have nmI : ∀ n, numV (Wl.numOf (intL n)) = .int n := fun n => by rw [show Wl.numOf (intL n) = some n from numOf_iff.mpr rfl]; rfl
          refine ⟨fun σ' H3 => Same H H3 ∧ σ' = [some (.ref (ga K "Ratio")), some (.str (S (TL.joinL [47] ps))), some (.ref wl), some (.ref nl), none, none, none] ∧ H3 wl = some (.lst ((ps.map S).map V.str)) ∧ H3 nl = some (.lst (ps.map fun p => numV (Wl.numOf p))) ∧ (∃ n0, ps = [intL n0]) ∨ Same H H3 ∧ σ' = [some (.ref (ga K "Ratio")), some (.str (S (TL.joinL [47] ps))), some (.ref wl), some (.ref nl), none, none, none] ∧ H3 wl = some (.lst ((ps.map S).map V.str)) ∧ H3 nl = some (.lst (ps.map fun p => numV (Wl.numOf p))) ∧ (∃ n0 n1, ps = [intL n0, intL n1] ∧ n1 ≠ 0), ?_, ?_⟩
          rotate_left
          · rintro σ' H3 (⟨S3, rfl, hw3, hn3, n0, rfl⟩ | ⟨S3, rfl, hw3, hn3, n0, n1, rfl, e0⟩)
            · have b0 : Bd 400 n0 := intL_bd hlen
              refine ⟨rfl, _, rfl, rd_ixL (v := .int n0) hn3 (by rw [List.map_singleton, nmI]; rfl) ?_⟩
              refine ⟨_, rfl, wl, _, rfl, .inl (SqL.of hw3), rfl, _, rfl, ?_⟩
              refine rd_ratio (q := 1) (by decide) (Bd.one (by decide)) fun c H4 s4 hc => ?_
              rw [low_nrm1] at hc
              obtain ⟨dc, hdc⟩ := id hc
              refine ⟨_, rfl, c, dc, _, rfl, hdc, c, n0, 1, rfl, hc, b0.mono (by decide), Bd.one (by decide), Nat.le_trans (intL_len b0) (by decide), by decide +kernel, ?_⟩
              refine ⟨_, rfl, rd_neS rfl rfl ⟨_, rfl, ?_⟩⟩
              exact ⟨_, rfl, k1 (n0, 1) ⟨low_one n0, rfl⟩ c H4 (S3.trans s4) hc⟩
            · have hlen' : (intL n0).length + (1 + (intL n1).length) ≤ 100 := by
                have z : (intL n0 ++ ([47] ++ intL n1)).length ≤ 100 := hlen
                rw [List.length_append, List.length_append] at z
                simpa using z
              have b0 : Bd 400 n0 := intL_bd (by omega)
              have b1 : Bd 400 n1 := intL_bd (by omega)
              refine ⟨rfl, _, rfl, rd_ixL (v := .int n0) hn3 (by rw [List.map_cons, List.map_singleton, nmI, nmI]; rfl) ?_⟩
              refine ⟨_, rfl, wl, _, rfl, .inl (SqL.of hw3), rfl, _, rfl, ?_⟩
              refine ⟨_, rfl, rd_ixL (v := .int n1) hn3 (by rw [List.map_cons, List.map_singleton, nmI, nmI]; rfl) ?_⟩
              refine rd_ratio e0 (b1.mono (by decide)) fun c H4 s4 hc => ?_
              obtain ⟨dc, hdc⟩ := id hc
              have c0 : Bd 400 (nrm n0 n1).1 := b0.le (nrm_le1 e0)
              have c1 : Bd 400 (nrm n0 n1).2 := b1.le (nrm_le2 e0)
              refine ⟨_, rfl, c, dc, _, rfl, hdc, c, _, _, rfl, hc, c0.mono (by decide), c1.mono (by decide), Nat.le_trans (intL_len c0) (by decide), Nat.le_trans (intL_len c1) (by decide), ?_⟩
              refine ⟨_, rfl, rfl, _, rfl, ?_⟩
              by_cases e : ratL (nrm n0 n1) = TL.joinL [47] [intL n0, intL n1]
              · refine iteF (by rw [show ((nrm n0 n1).1, (nrm n0 n1).2) = nrm n0 n1 from rfl, e]; simp) ?_
                exact ⟨_, rfl, k1 (nrm n0 n1) ⟨nrm_low e0, e⟩ c H4 (S3.trans s4) hc⟩
              · refine iteT (by
                  have : S (ratL (nrm n0 n1)) ≠ S (TL.joinL [47] [intL n0, intL n1]) := fun z => e (S_inj z)
                  simp [this]) ?_
                refine ⟨_, rfl, (by simp), rd_exc1 fun d H5 s5 nd hd => rz (fun p g => ?_) H4 (S3.trans s4) d H5 s5 nd hd⟩
                have ew := g.words (by simp) hfr
                split at ew
                · exact absurd (congrArg List.length ew) (by simp)
                · have e1 := intL_inj (List.cons.inj ew).1
                  have e2 := intL_inj (List.cons.inj (List.cons.inj ew).2).1
                  apply e
                  rw [e1, e2, nrm_of_low g.1]
                  have g2 := g.2
                  rw [e1, e2] at g2
                  exact g2
          refine ⟨_, rfl, wl, _, rfl, .inl (SqL.of hw2), _, _, rfl, rfl, _, rfl, ?_⟩
          refine ite2 (fun hc => ?_) (fun hc => ?_)
          · have h2 : 2 < ps.length := by
              have := of_decide_eq_true hc
              simp only [List.length_map] at this
              omega
            refine ⟨_, rfl, (by simp), rd_exc1 fun d H3 s3 nd hd => rz (fun p g => ?_) H2 s2 d H3 s3 nd hd⟩
            have e := g.words hne hfr
            rw [e] at h2
            split at h2 <;> simp at h2
          · have h2 : ps.length ≤ 2 := by
              have : ¬ (2 : Int) < (((ps.map S).map V.str).length : Int) := fun q => hc (decide_eq_true q)
              simp only [List.length_map] at this
              omega
            -- is there one that is none
            refine ⟨_, rfl, nl, rfl, ⟨_, SqL.of hn2⟩, fun D nD => ?_⟩
            refine lc_list (K := K) (a := nl) (xs := ps.map fun p => numV (Wl.numOf p)) (fun i H3 => Same H2 H3 ∧ H3 D = some (.lst ((ps.take i).map fun p => V.bl (decide (numV (Wl.numOf p) = .non))))) ⟨same_new nD, upd_same⟩ (fun i H3 _ h3 => SqL.of (h3.1 _ _ hn2)) ?_ ?_
            · rintro i x H3 hx ⟨s3, hD⟩
              rw [List.getElem?_map] at hx
              cases ep : ps[i]? with
              | none => rw [ep] at hx; cases hx
              | some pw =>
                rw [ep] at hx
                cases hx
                refine ⟨rfl, _, rfl, rfl, _, hD, ?_, same_upd nD s3, ?_⟩
                · rw [List.length_map, List.length_take]
                  exact Nat.lt_of_le_of_lt (Nat.min_le_right _ _) (by omega)
                · rw [upd_same, List.take_add_one, ep]
                  simp
            · rintro H3 ⟨s3, hD⟩
              rw [List.length_map, List.take_length] at hD
              refine ⟨D, ps.map fun p => decide (numV (Wl.numOf p) = .non), rfl, SqL.of (by rw [hD, List.map_map]; rfl), _, rfl, ?_⟩
              refine ite2 (fun hc => ?_) (fun hc => ?_)
              · refine ⟨_, rfl, (by simp), rd_exc1 fun d H4 s4 nd hd => rz (fun p g => ?_) H3 (s2.trans s3) d H4 s4 nd hd⟩
                rw [List.any_map] at hc
                obtain ⟨q, hq, hqn⟩ := List.any_eq_true.mp hc
                have e := g.words hne hfr
                rw [e] at hq
                have : ∃ n, q = intL n := by
                  split at hq
                  · exact ⟨_, List.mem_singleton.mp hq⟩
                  · rcases List.mem_cons.mp hq with hq | hq
                    · exact ⟨_, hq⟩
                    · exact ⟨_, List.mem_singleton.mp hq⟩
                obtain ⟨n, rfl⟩ := this
                have hqn : decide (numV (Wl.numOf (intL n)) = V.non) = true := hqn
                rw [show Wl.numOf (intL n) = some n from numOf_iff.mpr rfl] at hqn
                simp [numV] at hqn
              · have hall : ∀ q ∈ ps, ∃ n, intL n = q := by
                  intro q hq
                  cases e : Wl.numOf q with
                  | some n => exact ⟨n, numOf_iff.mp e⟩
                  | none =>
                    rw [List.any_map] at hc
                    exact absurd (List.any_eq_true.mpr ⟨q, hq, by simp [e, numV]⟩) hc
                have hn3 := s3 _ _ hn2
                have hw3 := s3 _ _ hw2
                have S3 := s2.trans s3
                match ps, hne, h2, hall with
                | [w0], _, _, hall =>
                  obtain ⟨n0, rfl⟩ := hall w0 List.mem_cons_self
                  refine ⟨_, rfl, _, rfl, rd_ixL (v := .int n0) hn3 (by rw [List.map_singleton, nmI]; rfl) ⟨rfl, _, rfl, ?_⟩⟩
                  refine ite2 (fun hc => ?_) (fun hc => ?_)
                  · exact ⟨_, rfl, wl, _, rfl, .inl (SqL.of hw3), rfl, _, rfl, .inl ⟨S3, rfl, hw3, hn3, n0, rfl⟩⟩
                  · exact .inl ⟨S3, rfl, hw3, hn3, n0, rfl⟩
                | [w0, w1], _, _, hall =>
                  obtain ⟨n0, rfl⟩ := hall w0 List.mem_cons_self
                  obtain ⟨n1, rfl⟩ := hall w1 (by simp)
                  refine ⟨_, rfl, _, rfl, rd_ixL (v := .int n1) hn3 (by rw [List.map_cons, List.map_singleton, nmI, nmI]; rfl) ⟨rfl, _, rfl, ?_⟩⟩
                  refine ite2 (fun hc => ?_) (fun hc => ?_)
                  · have e0 : n1 = 0 := by simpa using hc
                    refine ⟨_, rfl, wl, _, rfl, .inl (SqL.of hw3), rfl, _, rfl, ?_⟩
                    refine ⟨_, rfl, (by simp), rd_exc1 fun d H4 s4 nd hd => rz (fun p g => ?_) H3 S3 d H4 s4 nd hd⟩
                    have e := g.words (by simp) hfr
                    split at e
                    · exact absurd (congrArg List.length e) (by simp)
                    · have := intL_inj (List.cons.inj (List.cons.inj e).2).1
                      have := g.1.1
                      omega
                  · have e0 : n1 ≠ 0 := fun z => hc (by simp [z])
                    exact .inr ⟨S3, rfl, hw3, hn3, n0, n1, rfl, e0⟩
                | [], hne, _, _ => exact absurd rfl hne
                | _ :: _ :: _ :: _, _, h2, _ => simp at h2
theorem ok_Ratio_read (T : TX K mg) : FnR P w K mg base (L2.CX P w) 6 (recFn K (ma K (ga K "Ratio") "read") "classmethod") (spRead K) := (okd_Ratio_read T).r (fun _ _ _ _ _ _ us hl => match us, hl with | [_, _], _ => rfl)
end
end Lw
set_option Elab.async false
set_option linter.all false
set_option maxRecDepth 100000
set_option maxHeartbeats 4000000
/-! The law's own texts. -/
namespace Lw
open PySem PySem.Spec PyProof.Rows L2 He Wl SX
section
variable {P : Program} {w : World} {K : PySem.W.Frag} {mg : Str → Option Value} {base : Heap}
/-- a new pair -/
def NewP (H : Hp) (Q : VK) (p : Pr) : Prop := ∀ t H', Same H H' → H' t = some (tupP p) → Q (.ref t) H'
structure SpFrac (vs : List V) (H : Hp) (Q : VK) (E : XK) : Prop where
  h : ∃ u d : Int, vs = [.int u, .int d] ∧ d ≠ 0 ∧ Bd 8000 d ∧ NewP H Q (nrm u d)
theorem okd__law_parted (T : TX K mg) : FnD P w K mg base 1 (ga K "_law_parted") ["_law_top", "_law_bottom"] SpFrac d__law_parted.name d__law_parted.qual d__law_parted.params d__law_parted.body d__law_parted.scope := by
  refine fnD_of (T.d 30) sc__law_parted (fun vs H Q E h => ?_) (fun cdv A outer s H vs Q E hr h => ?_)
  · obtain ⟨u, d, rfl, _⟩ := h; rfl
  · obtain ⟨u, d, rfl, hd, bd, k⟩ := h
    refine ⟨_, pss_cons (ps_par (by rfl) sc__law_parted.nd (i := 2) (j := 3) rfl rfl (by decide) rfl rfl (pa_cons (pe_callB call_abs (by rfl) (T.f 31) (by decide +kernel) (pa_cons (pv 0) pa_nil)) (pa_cons (pe_callB call_abs (by rfl) (T.f 31) (by decide +kernel) (pa_cons (pv 1) pa_nil)) pa_nil)) (by rfl)) (pss_cons (ps_while (passes_of rfl) (pt_cmpR op_ne (pv 3) pe_int (nomark _)) (pss_one (ps_par (by rfl) sc__law_parted.nd (i := 2) (j := 3) rfl rfl (by decide) rfl rfl (pa_cons (pv 3) (pa_cons (pe_op op_modN (pv 2) (pv 3)) pa_nil)) (by rfl)))) (pss_cons (ps_set (i := 2) sc__law_parted.nd rfl (.inl rfl) (pe_ifExp (pt_cmpR op_gt (pv 1) pe_int (nomark _)) (pv 2) (pe_un un_neg (pv 2)))) (pss_one (ps_ret (pe_tup (pa_cons (pe_op op_fdivNW (pv 0) (pv 2)) (pa_cons (pe_op op_fdivNW (pv 1) (pv 2)) pa_nil))))))), ?_⟩
    refine ⟨_, rfl, _, rfl, _, rfl, _, rfl, _, _, rfl, ?_⟩
    refine ⟨fun m σ H' => H' = H ∧ ∃ x y : Int, σ = [some (.int u), some (.int d), some (.int x), some (.int y)] ∧ m = y.natAbs ∧ Int.gcd x y = Int.gcd u d ∧ 0 ≤ x ∧ 0 ≤ y, ⟨_, rfl, _, _, rfl, rfl, ?_, ?_, ?_⟩, ?_⟩
    · have e : ∀ a : Int, (if a < 0 then -a else a) = ((a.natAbs : Nat) : Int) := fun a => by split <;> omega
      rw [e, e]; simp [Int.gcd]
    · split <;> omega
    · split <;> omega
    rintro m σ H' ⟨rfl, x, y, rfl, rfl, hg, hx0, hy0⟩
    refine ⟨_, rfl, rfl, _, rfl, ?_⟩
    refine ite2 (fun hc => ?_) (fun hc => ?_)
    · have hy : y ≠ 0 := by intro z; subst z; simp at hc
      refine ⟨fun σ' H'' => H'' = H' ∧ σ' = [some (.int u), some (.int d), some (.int y), some (.int (x.fmod y))], ?_, ?_⟩
      · rintro σ' H'' ⟨rfl, rfl⟩
        exact ⟨(x.fmod y).natAbs, fmod_natAbs_lt x hy, rfl, y, _, rfl, rfl, (gcd_fmod x y).trans hg, hy0, Int.fmod_nonneg_of_pos x (by omega)⟩
      · exact ⟨_, rfl, _, rfl, _, rfl, _, _, rfl, rfl, hy, _, _, rfl, rfl, rfl⟩
    · have hy : y = 0 := by
        by_cases z : y = 0
        · exact z
        · exact absurd (by simp [z]) hc
      subst hy
      have ex : x = ((Int.gcd u d : Nat) : Int) := by
        rw [← hg, Int.gcd_zero_right]; omega
      have hlg : Bd 8000 (gsg u d) := bd.le (gsg_le hd)
      have hl2 : (gsg u d).natAbs.log2 < 9000 := Nat.lt_of_lt_of_le (PySem.Flt.log2_lt_of (by decide) hlg) (by decide)
      refine ⟨_, rfl, _, _, rfl, rfl, _, rfl, ?_⟩
      have rest : ∀ g : Int, g = gsg u d → (tRet (tTup (tCons (tOp (rI CDivNW fun i j => V.int (i.fdiv j)) (tVar 0) (tVar 2)) (tCons (tOp (rI CDivNW fun i j => V.int (i.fdiv j)) (tVar 1) (tVar 2)) tNil)))) { nx := fun _ H' => Q .non H', rt := Q } [some (.int u), some (.int d), some (.int g), some (.int 0)] H' := by
        rintro g rfl
        refine ⟨_, rfl, _, rfl, _, _, rfl, rfl, ⟨gsg_ne hd, hl2⟩, _, rfl, _, rfl, _, _, rfl, rfl, ⟨gsg_ne hd, hl2⟩, sz 2, ?_⟩
        intro l nl; generalize he' : upd _ _ _ = H1; obtain ⟨s1, hl⟩ := new_facts nl he'; clear he'
        exact k l H1 s1 hl
      refine ite2 (fun hc => ?_) (fun hc => ?_)
      · have hd0 : 0 < d := of_decide_eq_true hc
        exact ⟨_, rfl, rest _ (by unfold gsg; rw [if_pos hd0]; exact ex)⟩
      · have hd0 : ¬ 0 < d := fun h => hc (decide_eq_true h)
        exact ⟨_, rfl, _, rfl, rest _ (by unfold gsg; rw [if_neg hd0, ex])⟩
theorem ok__law_parted (T : TX K mg) : FnR P w K mg base (L2.CX P w) 1 (ga K "_law_parted") SpFrac := (okd__law_parted T).r (fun _ _ _ _ _ _ us hl => match us, hl with | [_, _], _ => rfl)
theorem rd_frac {H : Hp} {Q : VK} {E : XK} {u d : Int} (hd : d ≠ 0) (bd : Bd 8000 d) (k : NewP H Q (nrm u d)) : SpFrac [.int u, .int d] H Q E := ⟨u, d, rfl, hd, bd, k⟩
theorem bd_of {n : Nat} {x : Int} (h : x.natAbs < 2 ^ n) : Bd n x := h
theorem bdS {x : Int} (h : x.natAbs < 2 ^ 100) : Bd 8000 x := Bd.mono h (by decide)
structure SpLText (vs : List V) (H : Hp) (Q : VK) (E : XK) : Prop where
  h : ∃ x p, vs = [.ref x] ∧ H x = some (tupP p) ∧ Bd 400 p.1 ∧ Bd 400 p.2 ∧ Q (.str (S (ratL p))) H
theorem okd__law_text (T : TX K mg) : FnD P w K mg base 1 (ga K "_law_text") ["_law_x"] SpLText d__law_text.name d__law_text.qual d__law_text.params d__law_text.body d__law_text.scope := by
  refine fnD_of (T.d 31) sc__law_text (fun vs H Q E h => ?_) (fun cdv A outer s H vs Q E hr h => ?_)
  · obtain ⟨x, p, rfl, _⟩ := h; rfl
  · obtain ⟨x, p, rfl, hx, bp, bq, k⟩ := h
    refine ⟨_, pss_one (ps_ret (pe_ifExp (pt_cmpR op_eq (pe_ix ix_seq (pv 0) pe_int (fun _ _ => rfl)) pe_int (nomark _)) (pe_callTy call_str_int (by rfl) (T.f 44) (by decide +kernel) (pa_cons (pe_ix ix_seq (pv 0) pe_int (fun _ _ => rfl)) pa_nil)) (pe_op op_add_str (pe_op op_add_str (pe_callTy call_str_int (by rfl) (T.f 44) (by decide +kernel) (pa_cons (pe_ix ix_seq (pv 0) pe_int (fun _ _ => rfl)) pa_nil)) pe_str) (pe_callTy call_str_int (by rfl) (T.f 44) (by decide +kernel) (pa_cons (pe_ix ix_seq (pv 0) pe_int (fun _ _ => rfl)) pa_nil))))), ?_⟩
    have z : 30000 ≤ sizeLine := by decide
    have l1 := intL_len bp
    have l2 := intL_len bq
    refine ⟨_, rfl, rd_ixT hx rfl ⟨rfl, _, rfl, ?_⟩⟩
    refine ite2 (fun hc => ?_) (fun hc => ?_)
    · have hq : p.2 = 1 := by simpa using hc
      refine ⟨_, rfl, rd_ixT hx rfl ⟨_, rfl, log_of bp (by decide) (by decide), ?_⟩⟩
      have e : ratL p = intL p.1 := if_pos hq
      rw [e, ← str_S] at k
      exact k
    · have hq : p.2 ≠ 1 := fun z => hc (by simp [z])
      have e2 : Str.ofString (toString p.1) ++ Str.ofString "/" = S (intL p.1 ++ [47]) := by rw [str_S]; exact S_cat (intL p.1) [47]
      have e3 : S (intL p.1 ++ [47]) ++ Str.ofString (toString p.2) = S (ratL p) := by
        rw [str_S, S_cat]
        congr 1
        show _ = if p.2 = 1 then _ else _
        rw [if_neg hq]
        simp
      refine ⟨_, rfl, rd_ixT hx rfl ⟨_, rfl, log_of bp (by decide) (by decide), _, _, rfl, rfl, ?_, ?_⟩⟩
      · rw [str_S, S_len]
        have : (Str.ofString "/").length = 1 := by decide +kernel
        omega
      rw [e2]
      refine ⟨_, rfl, rd_ixT hx rfl ⟨_, rfl, log_of bq (by decide) (by decide), _, _, rfl, rfl, ?_, ?_⟩⟩
      · rw [str_S, S_len, S_len, List.length_append]; simp; omega
      · rw [e3]; exact k
theorem ok__law_text (T : TX K mg) : FnR P w K mg base (L2.CX P w) 1 (ga K "_law_text") SpLText := (okd__law_text T).r (fun _ _ _ _ _ _ us hl => match us, hl with | [_], _ => rfl)
theorem figs_len (l : List Nat) : (figs l).length ≤ l.length := by
  unfold figs; split
  · simp
  · exact Nat.le_refl _
def odd1 (c : Nat) : Bool := !(decide (48 ≤ c) && decide (c ≤ 57))
theorem digB_odd (l : List Nat) : (l.filter odd1 = []) ↔ digB l = true := by
  unfold digB
  rw [List.filter_eq_nil_iff, List.all_eq_true]
  constructor
  · intro h c hc
    have := h c hc
    unfold odd1 at this
    simpa using this
  · intro h c hc
    unfold odd1
    rw [h c hc]; simp
theorem strs_dp {K : PySem.W.Frag} {H : Hp} : ∀ l : List Str, DpAll K H (l.map V.str) (l.map PyData.str) ∧ PyData.plainAll (l.map PyData.str) = true ∧ PyData.depthAll (l.map PyData.str) ≤ 3
  | [] => ⟨.nil, rfl, by show PyData.depthAll [] ≤ 3; simp [PyData.depthAll]⟩
  | x :: l => by
    obtain ⟨h1, h2, h3⟩ := strs_dp (K := K) (H := H) l
    refine ⟨.cons (.str x) h1, ?_, ?_⟩
    · show PyData.plainAll (_ :: _) = true
      rw [PyData.plainAll, h2]; rfl
    · show PyData.depthAll (_ :: _) ≤ 3
      rw [PyData.depthAll]
      simp only [PyData.depth]
      omega
theorem rd_noneP {a b : Addr} {H : Hp} {Q : VK} {l : List Str} {neg : Bool} (ha : H a = some (.lst (l.map V.str))) (hb : H b = some (.lst [])) (k : Q (.bl (Bool.xor neg (decide (l = [])))) H) : rEqP K neg (.ref a) (.ref b) H Q := by
  obtain ⟨h1, h2, h3⟩ := strs_dp (K := K) (H := H) l
  refine ⟨.list (l.map PyData.str), .list [], .lst (SqL.of ha) h1, .lst (SqL.of hb) .nil, by rw [PyData.plain]; exact h2, rfl, by rw [PyData.depth]; omega, ?_⟩
  have e : PyData.eqv (.list (l.map PyData.str)) (.list []) = decide (l = []) := by
    cases l with
    | nil => rfl
    | cons x l => rw [PyData.eqv]; rfl
  rw [e]; exact k
theorem okd__law_number (T : TX K mg) : FnD P w K mg base 1 (ga K "_law_number") ["_law_line"] SpNumIn d__law_number.name d__law_number.qual d__law_number.params d__law_number.body d__law_number.scope := by
  refine fnD_of (T.d 32) sc__law_number (fun vs H Q E h => ?_) (fun cdv A outer s H vs Q E hr h => ?_)
  · obtain ⟨l, rfl, _⟩ := h; rfl
  · obtain ⟨l, rfl, hl, k⟩ := h
    refine ⟨_, C8.pss_cut (ps_set (i := 1) sc__law_number.nd rfl (.inl rfl) (pe_ifExp (pt_cmpR op_eq (pe_slice C8.sl_txt (pv 0) po_none (po_some pe_int)) pe_str (nomark _)) (pe_slice C8.sl_txt (pv 0) (po_some pe_int) po_none) (pv 0))) (C8.pss_cut (ps_if (PW.pt (pw_or (pt_cmpR op_eq (pv 1) pe_str (nomark _)) (pw_or1 (pt_cmpR (op_neP hr.units) (pe_lc (own := [("_law_sign", 2)]) (by rfl) sc__law_number.nd (pi_str (pv 1)) (blkOk_by (own := [("_law_sign", 2)]) (N := ["_law_line", "_law_figures", "_law_sign"]) (sc := defScope s__law_number) (by decide +kernel)) (fun _ _ _ _ _ => (pg_name (i := 2) sc__law_number.nd rfl (.inl rfl))) (fun _ _ _ _ _ => pts_one (pt_cmpR op_notin_str (pv 2) pe_str (by rfl))) (fun _ _ _ _ _ => (pv 2))) (pe_lst pa_nil) (nomark _))))) (pss_one (ps_ret pe_non)) (pss_nil)) (pss_cons (ps_if (PW.pt (pw_and (pt_cmpR op_eq (pe_ix ix_seq (pv 1) pe_int (fun _ _ => rfl)) pe_str (nomark _)) (pw_and1 (pt_cmpR op_ne (pv 0) pe_str (nomark _))))) (pss_one (ps_ret pe_non)) (pss_nil)) (pss_one (ps_ret (pe_callTy call_int_str (by rfl) (T.f 36) (by decide +kernel) (pa_cons (pv 0) pa_nil)))))), ?_⟩
    have z : 30000 ≤ sizeLine := by decide
    have hz : (S l).length ≤ sizeLine := by rw [S_len]; omega
    have c1 : Txt.slice (S l) none (some 1) = S (l.take 1) := slice_to (by decide)
    have c2 : Txt.slice (S l) (some 1) none = S (l.drop 1) := slice_from (by decide)
    refine ⟨fun σ' H' => H' = H ∧ σ' = [some (.str (S l)), some (.str (S (figs l))), none], ?_, ?_⟩
    · refine ⟨_, rfl, _, rfl, _, rfl, hz, ?_⟩
      rw [c1]
      refine ⟨rfl, _, rfl, ?_⟩
      have e45 : Str.ofString "-" = S [45] := by decide +kernel
      refine ite2 (fun hc => ?_) (fun hc => ?_)
      · have e : l.take 1 = [45] := by
          have : S (l.take 1) = Str.ofString "-" := by simpa using hc
          rw [e45] at this
          exact S_inj this
        refine ⟨_, rfl, _, rfl, _, rfl, hz, ?_⟩
        rw [c2]
        have e2 : figs l = l.drop 1 := by
          cases l with
          | nil => cases e
          | cons c r => cases e; rfl
        exact ⟨rfl, by rw [e2]; rfl⟩
      · have e2 : figs l = l := by
          unfold figs; split
          · rename_i r
            exact absurd (by rw [e45]; simp) hc
          · rfl
        exact ⟨_, rfl, rfl, by rw [e2]; rfl⟩
    · rintro σ' H' ⟨rfl, rfl⟩
      refine ⟨fun σ' H2 => Same H' H2 ∧ σ' = [some (.str (S l)), some (.str (S (figs l))), none] ∧ figs l ≠ [] ∧ digB (figs l) = true, ?_, ?_⟩
      · refine ⟨_, rfl, rfl, _, rfl, ?_⟩
        refine ite2 (fun hc => ?_) (fun hc => ?_)
        · have e : figs l = [] := by
            have : S (figs l) = Str.ofString "" := by simpa using hc
            exact S_inj (this.trans (by decide +kernel : Str.ofString "" = S []))
          have k' := k H' fun _ _ e => e
          rw [numOf_odd (.inl e)] at k'
          exact k'
        · have hne : figs l ≠ [] := fun e => hc (by rw [e]; rfl)
          refine ⟨_, rfl, _, rfl, fun D nD => ?_⟩
          refine lc_it walk_str (fun i H2 => Same H' H2 ∧ H2 D = some (.lst ((((figs l).take i).filter odd1).map fun c => V.str ⟨#[c]⟩))) ⟨same_new nD, upd_same⟩ (fun _ _ _ _ => trivial) ?_ ?_
          · rintro i x H2 _ hi ⟨s2, hD⟩ ⟨rfl, c, hc', rfl⟩
            have hc2 : (figs l)[i]? = some c := by simpa using hc'
            have hi2 : i < (figs l).length := (List.getElem?_eq_some_iff.mp hc2).1
            refine ⟨rfl, _, rfl, _, _, rfl, rfl, _, rfl, ?_⟩
            rw [in_digits]
            refine ite2 (fun ho => ?_) (fun ho => ?_)
            · refine ⟨_, rfl, _, hD, ?_, same_upd nD s2, ?_⟩
              · rw [List.length_map]
                have h1 := List.length_filter_le odd1 ((figs l).take i)
                rw [List.length_take] at h1
                have h2 := figs_len l
                exact Nat.lt_of_le_of_lt (Nat.le_trans h1 (Nat.min_le_right _ _)) (by omega)
              · rw [upd_same, List.take_add_one, hc2, List.filter_append]
                have : odd1 c = true := ho
                simp [List.filter, this]
            · refine ⟨s2, ?_⟩
              rw [hD, List.take_add_one, hc2, List.filter_append]
              have : odd1 c = false := by
                cases q : odd1 c with
                | false => rfl
                | true => exact absurd q ho
              simp [List.filter, this]
          · rintro H2 ⟨s2, hD⟩
            have hsz : (S (figs l)).cps.size = (figs l).length := by simp
            rw [hsz, List.take_length] at hD
            refine ⟨sz 0, ?_⟩
            intro le nle; generalize he' : upd _ _ _ = H3; obtain ⟨s3, hle⟩ := new_facts nle he'; clear he'
            have hD3 : H3 D = some (.lst ((((figs l).filter odd1).map fun c => (⟨#[c]⟩ : Str)).map V.str)) := by rw [s3 _ _ hD, List.map_map]; rfl
            refine rd_noneP hD3 hle ⟨_, rfl, ?_⟩
            refine ite2 (fun ho => ?_) (fun ho => ?_)
            · have e : digB (figs l) = false := by
                cases q : digB (figs l) with
                | false => rfl
                | true =>
                  rw [(digB_odd _).mpr q] at ho
                  simp at ho
              have k' := k H3 (s2.trans s3)
              rw [numOf_odd (.inr e)] at k'
              exact k'
            · refine ⟨s2.trans s3, rfl, hne, ?_⟩
              refine (digB_odd _).mp ?_
              cases q : (figs l).filter odd1 with
              | nil => rfl
              | cons c r => rw [q] at ho; simp at ho
      · rintro σ' H2 ⟨s2, rfl, hne, hd⟩
        have e48 : Str.ofString "0" = S [48] := by decide +kernel
        obtain ⟨c0, r0, hf⟩ : ∃ c0 r0, figs l = c0 :: r0 := by
          cases q : figs l with
          | nil => exact absurd q hne
          | cons c r => exact ⟨c, r, rfl⟩
        have fl := figs_len l
        have cn := canon hd hne
        have bd := valL_bd hd hl
        have k' := k H2 s2
        unfold Wl.numOf at k'
        refine ⟨_, rfl, .inr (.inr ⟨_, 0, c0, rfl, rfl, by rw [S_len]; omega, by rw [hf]; exact atI_nat (j := 0) (by simp), rfl, _, rfl, ?_⟩)⟩
        refine ite2 (fun hc => ?_) (fun hc => ?_)
        · have e0 : c0 = 48 := by
            have : S [c0] = Str.ofString "0" := by simpa using hc
            rw [e48] at this
            exact (List.cons.inj (S_inj this)).1
          refine ⟨_, rfl, rfl, _, rfl, ?_⟩
          refine ite2 (fun hd2 => ?_) (fun hd2 => ?_)
          · have hw : l ≠ [48] := fun z => by
              rw [z, e48] at hd2; simp at hd2
            rw [if_neg (fun z => (cn.mp z) ⟨⟨r0, by rw [hf, e0]⟩, hw⟩)] at k'
            exact k'
          · have hw : l = [48] := by
              have : S l = Str.ofString "0" := by
                cases q : decide (V.str (S l) = V.str (Str.ofString "0")) with
                | true => simpa using q
                | false => exact absurd (by rw [q]; rfl) hd2
              rw [e48] at this
              exact S_inj this
            rw [if_pos (cn.mpr fun z => z.2 hw)] at k'
            exact ⟨_, rfl, _, _, rfl, int_valL hd hne (by omega), by rw [S_len]; omega, k'⟩
        · have e0 : c0 ≠ 48 := fun z => hc (by rw [z, e48]; simp)
          rw [if_pos (cn.mpr fun z => by
            obtain ⟨⟨r, hr'⟩, _⟩ := z
            rw [hf] at hr'
            exact e0 (List.cons.inj hr').1)] at k'
          exact ⟨_, rfl, _, _, rfl, int_valL hd hne (by omega), by rw [S_len]; omega, k'⟩
theorem ok__law_number (T : TX K mg) : FnR P w K mg base (L2.CX P w) 1 (ga K "_law_number") SpNumIn := (okd__law_number T).r (fun _ _ _ _ _ _ us hl => match us, hl with | [_], _ => rfl)
/-- what the law reads -/
structure SpLRead (vs : List V) (H : Hp) (Q : VK) (E : XK) : Prop where
  h : ∃ l, vs = [.str (S l)] ∧ l.length ≤ 10000 ∧ ((100 < l.length ∨ ∀ p, ¬ Good l p) → ∀ H', Same H H' → Q .non H') ∧ (l.length ≤ 100 → ∀ p, Good l p → NewP H Q p)
theorem in_non (xs : List V) (h : xs.all flatV = true) : inV .non xs = xs.any fun x => decide (x = .non) := by
  unfold inV
  induction xs with
  | nil => rfl
  | cons x xs ih =>
    rw [List.all_cons, Bool.and_eq_true] at h
    rw [List.any_cons, List.any_cons, ih h.2]
    congr 1
    cases x <;> rfl
theorem flat_numV (o : Option Int) : flatV (numV o) = true := by cases o <;> rfl
theorem okd__law_read (T : TX K mg) : FnD P w K mg base 2 (ga K "_law_read") ["_law_line"] SpLRead d__law_read.name d__law_read.qual d__law_read.params d__law_read.body d__law_read.scope := by
  refine fnD_of (T.d 33) sc__law_read (fun vs H Q E h => ?_) (fun cdv A outer s H vs Q E hr h => ?_)
  · obtain ⟨l, rfl, _⟩ := h; rfl
  · obtain ⟨l, rfl, hl, k0, k1⟩ := h
    refine ⟨_, pss_cons (ps_if (PW.pt (pw_or (pt_not (pt_val (pe_callB (call_isiY (x_r T).cl (x_r T).isi) (by rfl) (T.f 37) (by decide +kernel) (pa_cons (pv 0) (pa_cons (pe_bltn (v := .ty "str") (u := .type "str") (by rfl) (T.f 44) (by decide +kernel) rfl) pa_nil))))) (pw_or1 (pt_cmpR op_gt (pe_callB call_len_str (by rfl) (T.f 38) (by decide +kernel) (pa_cons (pv 0) pa_nil)) pe_int (nomark _))))) (pss_one (ps_ret pe_non)) (pss_nil)) (pss_cons (ps_set (i := 1) sc__law_read.nd rfl (.inl rfl) (pe_split (pv 0) pe_str)) (C8.pss_cut (ps_setLc (i := 2) (own := [("_law_word", 3)]) (by rfl) sc__law_read.nd rfl rfl (sw_true rfl rfl rfl (by decide +kernel)) (pi_list (pv 1)) (blkOk_by (own := [("_law_word", 3)]) (N := ["_law_line", "_law_words", "_law_numbers", "_law_word"]) (sc := defScope s__law_read) (by decide +kernel)) (fun _ _ _ _ _ => (pg_name (i := 3) sc__law_read.nd rfl (.inl rfl))) (fun _ _ _ _ _ => pts_nil) (fun _ _ _ _ _ => (pe_callR (ok__law_number T) (hr.mono (by decide)) (T.kg 32) (by rfl) (T.g 17) passL (pa_cons (pv 3) pa_nil)))) (C8.pss_cut (ps_if (PW.pt (pw_or (pt_cmpR op_gt (pe_callB call_len_seq (by rfl) (T.f 38) (by decide +kernel) (pa_cons (pv 1) pa_nil)) pe_int (nomark _)) (pw_or1 (pt_cmpR op_in_seq pe_non (pv 2) (by rfl))))) (pss_one (ps_ret pe_non)) (pss_nil)) (pss_cons (ps_if (pt_cmpR op_eq (pe_callB call_len_seq (by rfl) (T.f 38) (by decide +kernel) (pa_cons (pv 1) pa_nil)) pe_int (nomark _)) (pss_one (ps_ret (pe_tup (pa_cons (pe_ix ix_seq (pv 2) pe_int (fun _ _ => rfl)) (pa_cons pe_int pa_nil))))) (pss_nil)) (pss_cons (ps_if (PW.pt (pw_or (pt_cmpR op_lt (pe_ix ix_seq (pv 2) pe_int (fun _ _ => rfl)) pe_int (nomark _)) (pw_or1 (pt_cmpR (op_neD hr.units) (pe_callR (ok__law_parted T) (hr.mono (by decide)) (T.kg 30) (by rfl) (T.g 15) passL (pa_cons (pe_ix ix_seq (pv 2) pe_int (fun _ _ => rfl)) (pa_cons (pe_ix ix_seq (pv 2) pe_int (fun _ _ => rfl)) pa_nil))) (pe_tup (pa_cons (pe_ix ix_seq (pv 2) pe_int (fun _ _ => rfl)) (pa_cons (pe_ix ix_seq (pv 2) pe_int (fun _ _ => rfl)) pa_nil))) (nomark _))))) (pss_one (ps_ret pe_non)) (pss_nil)) (pss_one (ps_ret (pe_tup (pa_cons (pe_ix ix_seq (pv 2) pe_int (fun _ _ => rfl)) (pa_cons (pe_ix ix_seq (pv 2) pe_int (fun _ _ => rfl)) pa_nil)))))))))), ?_⟩
    have z : 30000 ≤ sizeLine := by decide
    have os : OkT (ga K "Ratio") (.type "str") := .inr ⟨"str", by decide, rfl⟩
    refine ⟨_, rfl, .str (S l), .ty "str", .type "str", .type "str", _, rfl, .ty _, .inl (.base (.str _)), k_str T os, _, rfl, ?_⟩
    refine ⟨_, rfl, _, rfl, by rw [S_len]; omega, _, _, rfl, rfl, _, rfl, ?_⟩
    refine ite2 (fun hc => ?_) (fun hc => ?_)
    · have hlen : 100 < l.length := by
        have := of_decide_eq_true hc
        rw [S_len] at this
        omega
      exact k0 (.inl hlen) H fun _ _ e => e
    · have hlen : l.length ≤ 100 := by
        have : ¬ (100 : Int) < ((S l).length : Int) := fun q => hc (decide_eq_true q)
        rw [S_len] at this
        omega
      have k1 := k1 hlen
      obtain ⟨ps, hne, hfr, rfl⟩ := joined l
      have hcnt : ps.length ≤ 101 := by have := join_cnt hne; omega
      have nmI : ∀ n, numV (Wl.numOf (intL n)) = .int n := fun n => by rw [show Wl.numOf (intL n) = some n from numOf_iff.mpr rfl]; rfl
      refine ⟨_, rfl, ⟨_, rfl⟩, _, _, rfl, rfl, by decide +kernel, by rw [S_len]; omega, ?_⟩
      intro wl nwl; generalize he' : upd _ _ _ = H1; obtain ⟨s1, hwl⟩ := new_facts nwl he'; clear he'
      rw [split_sl hne hfr] at hwl
      refine ⟨fun σ' H' => Same H H' ∧ ∃ nl, σ' = [some (.str (S (TL.joinL [47] ps))), some (.ref wl), some (.ref nl), none] ∧ H' wl = some (.lst ((ps.map S).map V.str)) ∧ H' nl = some (.lst (ps.map fun p => numV (Wl.numOf p))), ?_, ?_⟩
      · refine ⟨_, rfl, wl, rfl, ⟨_, SqL.of hwl⟩, ?_⟩
        intro D nD
        refine lc_list (K := K) (a := wl) (xs := (ps.map S).map V.str) (fun i H2 => Same H1 H2 ∧ H2 D = some (.lst ((ps.take i).map fun p => numV (Wl.numOf p)))) ⟨same_new nD, upd_same⟩ (fun i H2 _ h2 => SqL.of (h2.1 _ _ hwl)) ?_ ?_
        · rintro i x H2 hx ⟨s2, hD⟩
          rw [List.getElem?_map, List.getElem?_map] at hx
          cases ep : ps[i]? with
          | none => rw [ep] at hx; cases hx
          | some pw =>
            rw [ep] at hx
            cases hx
            have hpl := join_len (List.mem_of_getElem? ep)
            refine ⟨rfl, _, rfl, pw, rfl, by omega, fun H3 s3 => ⟨_, s3 _ _ hD, ?_, same_upd nD (s2.trans s3), ?_⟩⟩
            · rw [List.length_map, List.length_take]
              exact Nat.lt_of_le_of_lt (Nat.min_le_right _ _) (by omega)
            · rw [upd_same, List.take_add_one, ep]
              simp
        · rintro H2 ⟨s2, hD⟩
          refine ⟨s1.trans s2, D, rfl, s2 _ _ hwl, ?_⟩
          rw [hD, List.length_map, List.length_map, List.take_length]
      · rintro σ' H2 ⟨s2, nl, rfl, hw2, hn2⟩
        refine ⟨fun σ' H3 => H3 = H2 ∧ σ' = [some (.str (S (TL.joinL [47] ps))), some (.ref wl), some (.ref nl), none] ∧ ((∃ n0, ps = [intL n0]) ∨ ∃ n0 n1, ps = [intL n0, intL n1]), ?_, ?_⟩
        · refine ⟨_, rfl, wl, _, rfl, .inl (SqL.of hw2), _, _, rfl, rfl, _, rfl, ?_⟩
          refine ite2 (fun hc => ?_) (fun hc => ?_)
          · have h2 : 2 < ps.length := by
              have := of_decide_eq_true hc
              simp only [List.length_map] at this
              omega
            refine k0 (.inr fun p g => ?_) H2 s2
            have e := g.words hne hfr
            rw [e] at h2
            split at h2 <;> simp at h2
          · have h2 : ps.length ≤ 2 := by
              have : ¬ (2 : Int) < (((ps.map S).map V.str).length : Int) := fun q => hc (decide_eq_true q)
              simp only [List.length_map] at this
              omega
            have hfl : (ps.map fun p => numV (Wl.numOf p)).all flatV = true := by
              rw [List.all_map]; exact List.all_eq_true.mpr fun p _ => flat_numV _
            refine ⟨_, rfl, nl, _, rfl, .inl (SqL.of hn2), rfl, hfl, _, rfl, ?_⟩
            rw [if_neg (by decide), in_non _ hfl, List.any_map]
            refine ite2 (fun hc => ?_) (fun hc => ?_)
            · refine k0 (.inr fun p g => ?_) H2 s2
              obtain ⟨q, hq, hqn⟩ := List.any_eq_true.mp hc
              have e := g.words hne hfr
              rw [e] at hq
              have : ∃ n, q = intL n := by
                split at hq
                · exact ⟨_, List.mem_singleton.mp hq⟩
                · rcases List.mem_cons.mp hq with hq | hq
                  · exact ⟨_, hq⟩
                  · exact ⟨_, List.mem_singleton.mp hq⟩
              obtain ⟨n, rfl⟩ := this
              have hqn : decide (numV (Wl.numOf (intL n)) = V.non) = true := hqn
              rw [nmI] at hqn
              simp at hqn
            · have hall : ∀ q ∈ ps, ∃ n, intL n = q := by
                intro q hq
                cases e : Wl.numOf q with
                | some n => exact ⟨n, numOf_iff.mp e⟩
                | none => exact absurd (List.any_eq_true.mpr ⟨q, hq, by simp [e, numV]⟩) hc
              match ps, hne, h2, hall with
              | [w0], _, _, hall =>
                obtain ⟨n0, rfl⟩ := hall w0 List.mem_cons_self
                exact ⟨rfl, rfl, .inl ⟨n0, rfl⟩⟩
              | [w0, w1], _, _, hall =>
                obtain ⟨n0, rfl⟩ := hall w0 List.mem_cons_self
                obtain ⟨n1, rfl⟩ := hall w1 (by simp)
                exact ⟨rfl, rfl, .inr ⟨n0, n1, rfl⟩⟩
              | [], hne, _, _ => exact absurd rfl hne
              | _ :: _ :: _ :: _, _, h2, _ => simp at h2
        · rintro σ' H3 ⟨rfl, rfl, ⟨n0, rfl⟩ | ⟨n0, n1, rfl⟩⟩
          · refine ⟨_, rfl, wl, _, rfl, .inl (SqL.of hw2), rfl, _, rfl, ?_⟩
            refine ⟨_, rfl, rd_ixL (v := .int n0) hn2 (by rw [List.map_singleton, nmI]; rfl) ⟨sz 2, ?_⟩⟩
            intro t nt; generalize he' : upd _ _ _ = H4; obtain ⟨s4, ht⟩ := new_facts nt he'; clear he'
            exact k1 (n0, 1) ⟨low_one n0, rfl⟩ t H4 (s2.trans s4) ht
          · have hlen' : (intL n0).length + (1 + (intL n1).length) ≤ 100 := by
              have z : (intL n0 ++ ([47] ++ intL n1)).length ≤ 100 := hlen
              rw [List.length_append, List.length_append] at z
              simpa using z
            have b0 : Bd 400 n0 := intL_bd (by omega)
            have b1 : Bd 400 n1 := intL_bd (by omega)
            have i0 : atI ([intL n0, intL n1].map fun p => numV (Wl.numOf p)) 0 = some (V.int n0) := by rw [List.map_cons, List.map_singleton, nmI, nmI]; rfl
            have i1 : atI ([intL n0, intL n1].map fun p => numV (Wl.numOf p)) 1 = some (V.int n1) := by rw [List.map_cons, List.map_singleton, nmI, nmI]; rfl
            have bad : ¬ (2 ≤ n1 ∧ nrm n0 n1 = (n0, n1)) → ∀ p, ¬ Good (TL.joinL [47] [intL n0, intL n1]) p := by
              intro h p g
              have ew := g.words (by simp) hfr
              split at ew
              · exact absurd (congrArg List.length ew) (by simp)
              · have e1 := intL_inj (List.cons.inj ew).1
                have e2 := intL_inj (List.cons.inj (List.cons.inj ew).2).1
                apply h
                rw [e1, e2, nrm_of_low g.1]
                have := g.1.1
                exact ⟨by omega, rfl⟩
            refine ⟨_, rfl, wl, _, rfl, .inl (SqL.of hw2), rfl, _, rfl, ?_⟩
            refine ⟨_, rfl, rd_ixL hn2 i1 ⟨_, _, rfl, rfl, _, rfl, ?_⟩⟩
            refine ite2 (fun hc => ?_) (fun hc => ?_)
            · have h1 : n1 < 2 := of_decide_eq_true hc
              exact k0 (.inr (bad (by omega))) H3 s2
            · have h1 : 2 ≤ n1 := by
                have : ¬ n1 < 2 := fun q => hc (decide_eq_true q)
                omega
              refine ⟨_, rfl, rd_ixL hn2 i0 ⟨_, rfl, rd_ixL hn2 i1 (rd_frac (by omega) (b1.mono (by decide)) fun t H4 s4 ht => ?_)⟩⟩
              refine ⟨_, rfl, rd_ixL (s4 _ _ hn2) i0 ⟨_, rfl, rd_ixL (s4 _ _ hn2) i1 ⟨sz 2, ?_⟩⟩⟩
              intro t2 nt2; generalize he' : upd _ _ _ = H5; obtain ⟨s5, ht2⟩ := new_facts nt2 he'; clear he'
              refine ⟨.tuple [.int (nrm n0 n1).1, .int (nrm n0 n1).2], .tuple [.int n0, .int n1], .tup (SqT.of (s5 _ _ ht)) (.cons (.int _) (.cons (.int _) .nil)), .tup (SqT.of ht2) (.cons (.int _) (.cons (.int _) .nil)), rfl, rfl, _, rfl, ?_⟩
              rw [eqv_pair]
              have S5 := (s2.trans s4).trans s5
              by_cases e : nrm n0 n1 = (n0, n1)
              · refine iteF (by rw [e]; simp) ?_
                refine ⟨_, rfl, rd_ixL ((s4.trans s5) _ _ hn2) i0 ⟨_, rfl, rd_ixL ((s4.trans s5) _ _ hn2) i1 ⟨sz 2, ?_⟩⟩⟩
                intro t3 nt3; generalize he' : upd _ _ _ = H6; obtain ⟨s6, ht3⟩ := new_facts nt3 he'; clear he'
                have hlow := nrm_low (p := n0) (q := n1) (by omega)
                rw [e] at hlow
                exact k1 (n0, n1) ⟨hlow, if_neg (show ¬ n1 = 1 by omega)⟩ t3 H6 (S5.trans s6) ht3
              · refine iteT (by
                  have : ¬ ((nrm n0 n1).1 = n0 ∧ (nrm n0 n1).2 = n1) := fun q => e (Prod.ext q.1 q.2)
                  simp [this]) ?_
                exact k0 (.inr (bad fun q => e q.2)) H5 S5
theorem ok__law_read (T : TX K mg) : FnR P w K mg base (L2.CX P w) 2 (ga K "_law_read") SpLRead := (okd__law_read T).r (fun _ _ _ _ _ _ us hl => match us, hl with | [_], _ => rfl)
end
end Lw
set_option Elab.async false
set_option linter.all false
set_option maxRecDepth 100000
set_option maxHeartbeats 4000000
/-! Refusals. -/
namespace Lw
open PySem PySem.Spec PyProof.Rows L2 He Wl SX
theorem pe_ratio2K {X : Cx} {p pos : Pos} {e : Expr} {es : List Expr} {t : TA} {E : XK} (K : PySem.W.Frag) (hK : X.K = K) (T : TX K X.mg) (hr : Room (3 + 1) X.A) (hg : Gl X "Ratio") (hm : X.mg "Ratio" = some (.ref (ga K "Ratio"))) (hx : Passes (L2.CX X.prog X.w) X E) (ha : PA X (e :: es) t)
    (he : starEach (e :: es) X.env = (false, eval e X.env) :: starEach es X.env := by rfl) (hpl : (backTo pos (starEach es X.env)).any (·.1) = false := by rfl) : PE X (.Call (.Name "Ratio" p) (e :: es) [] pos) (tCallR (SpMk K []) E t) := by
  subst hK
  exact pe_ratio2 T hr hg hm hx ha he hpl
section
variable {P : Program} {w : World} {K : PySem.W.Frag} {mg : Str → Option Value} {base : Heap}
/-- a new pair of a word and a thing -/
def NewW (H : Hp) (Q : VK) (x : Str) (v : V) : Prop := ∀ t H', Same H H' → H' t = some (.tup [.str x, v]) → Q (.ref t) H'
structure SpFound (K : PySem.W.Frag) (vs : List V) (H : Hp) (Q : VK) (E : XK) : Prop where
  h : ∃ v, vs = [v] ∧ ((∃ t, TyY K (ga K "Ratio") v H t ∧ OkT (ga K "Ratio") t ∧ t ≠ .type "str" ∧ NewW H Q "text" v) ∨
    ∃ l, v = .str (S l) ∧ l.length ≤ 10000 ∧ ((100 < l.length ∨ ∀ p, ¬ Good l p) → NewW H Q "text" v) ∧ (l.length ≤ 100 → ∀ p, Good l p → NewP H Q p))
theorem okd__law_found (T : TX K mg) : FnD P w K mg base 8 (ga K "_law_found") ["_law_line"] (SpFound K) d__law_found.name d__law_found.qual d__law_found.params d__law_found.body d__law_found.scope := by
  refine fnD_of (T.d 36) sc__law_found (fun vs H Q E h => ?_) (fun cdv A outer s H vs Q E hr h => ?_)
  · obtain ⟨v, rfl, _⟩ := h; rfl
  · obtain ⟨v, rfl, k⟩ := h
    refine ⟨_, pss_cons (ps_try_mix rfl rfl takes0 (fun W pn xe tk po => pss_one (ps_set (i := 1) sc__law_found.nd rfl (.inl rfl) (ClX.pe_cmeth (pe_glob (v := .ref (ga K "Ratio")) (by rfl) (T.g 30) rfl) (x_c T).rd (x_c T).cm (ok_Ratio_read T) (hr.mono (by decide)) (passes_len 3 tk) (pa_cons (pv 0) pa_nil)))) (.named sc__law_found.nd (i := 2) rfl rfl ⟨by rfl, by decide, .inl (T.g 28)⟩ (fun a oe cls d pn hz hf => pss_one (ps_ret (pe_tup (pa_cons pe_str (pa_cons (pe_xf (x_xt T) ((x_it T).n) hz hf (pv 2)) pa_nil))))) .nil)) (pss_one (ps_ret (pe_tup (pa_cons (pe_prp (x_r T).cl (x_r T).ptop (ok_Ratio_top T) (hr.mono (by decide)) (pv 1)) (pa_cons (pe_prp (x_r T).cl (x_r T).pbot (ok_Ratio_bottom T) (hr.mono (by decide)) (pv 1)) pa_nil))))), ?_⟩
    have caught : ∀ {H1 : Hp} {D : Ends}, NewW H1 D.rt "text" v → Refused (fun cls d H => ∀ σ : L2.St, σ.length = 3 → wMix K (fun _ _ _ _ => False) D [(.ref (ga K "InvalidText"), some 2, fun a cls d => tRet (tTup (tCons (tC (.str (Str.ofString "text"))) (tCons (tXf a cls d (ga K "InvalidText") "value" (tVar 2)) tNil))))] cls d σ H) (ga K "InvalidText") H1 v := by
      intro H1 D k d H2 s2 nd hd σ hσ
      refine ⟨true, (x_m T).1, fun _ a na => ?_, fun z => nomatch z⟩
      refine ⟨_, ?_, rfl, rfl, d, _, v, rfl, hd, rfl, sz 2, ?_⟩
      · rw [List.getElem?_set]; simp [hσ]
      intro t nt; generalize he' : upd _ _ _ = H3; obtain ⟨s3, ht⟩ := new_facts nt he'; clear he'
      exact k t H3 (s2.trans s3) ht
    refine ⟨rfl, _, rfl, ?_⟩
    rcases k with ⟨t, h1, h2, h3, k⟩ | ⟨l, rfl, hl, k0, k1⟩
    · exact ⟨v, rfl, .inl ⟨t, h1, h2, h3, caught k⟩⟩
    · refine ⟨_, rfl, .inr ⟨l, rfl, hl, fun z => caught (k0 z), fun hl p g c H1 s1 hc => ?_⟩⟩
      obtain ⟨dc, hdc⟩ := id hc
      refine ⟨_, rfl, c, dc, _, rfl, hdc, c, _, _, rfl, hc, ?_⟩
      refine ⟨_, rfl, c, dc, _, rfl, hdc, c, _, _, rfl, hc, sz 2, ?_⟩
      intro t nt; generalize he' : upd _ _ _ = H2; obtain ⟨s2, ht⟩ := new_facts nt he'; clear he'
      exact k1 hl p g t H2 (s1.trans s2) ht
theorem ok__law_found (T : TX K mg) : FnR P w K mg base (L2.CX P w) 8 (ga K "_law_found") (SpFound K) := (okd__law_found T).r (fun _ _ _ _ _ _ us hl => match us, hl with | [_], _ => rfl)
def New1 (H : Hp) (Q : VK) (x : Str) : Prop := ∀ t H', Same H H' → H' t = some (.tup [.str x]) → Q (.ref t) H'
/-- what is no list of numbers, or too short a one -/
def BadL (K : PySem.W.Frag) (H : Hp) (v : V) (n : Int) : Prop := (∃ t, TyY K (ga K "Ratio") v H t ∧ OkT (ga K "Ratio") t ∧ t ≠ .type "list" ∧ t ≠ .type "tuple") ∨
  ∃ a o xs bs, v = .ref a ∧ H a = some o ∧ SeqO o xs ∧ Kinds K H xs bs ∧ xs.length < 100 ∧ (((xs.length : Nat) : Int) < n ∨ bs.all id = false)
theorem BadL.need {H : Hp} {v : V} {n : Int} {Q : VK} {E : XK} (h : BadL K H v n) (r : Refused E (ga K "InvalidNumber") H v) : spNeed K [v, .int n] H Q E := by
  refine ⟨v, n, rfl, ?_⟩
  rcases h with ⟨t, h1, h2, h3, h4⟩ | ⟨a, o, xs, bs, h1, h2, h3, h4, h5, h6⟩
  · exact .inl ⟨t, h1, h2, h3, h4, r⟩
  · refine .inr ⟨a, o, xs, bs, h1, h2, h3, h4, h5, fun _ => r, fun g1 g2 => ?_⟩
    rcases h6 with h6 | h6
    · omega
    · rw [g2] at h6; cases h6
theorem ty_of_int {R : Addr} {H : Hp} {p : Int} {t : Value} (h : TyY K R (.int p) H t) : t = .type "int" := by
  rcases h with h | ⟨_, _, _, _, z, _⟩
  · cases h with
    | base h => cases h; rfl
  · cases z
structure SpRef (K : PySem.W.Frag) (vs : List V) (H : Hp) (Q : VK) (E : XK) : Prop where
  h : ∃ (way : Int) (v u : V), vs = [.int way, v, u] ∧
    ((way = 0 ∧ ∃ tv tu, TyY K (ga K "Ratio") v H tv ∧ OkT (ga K "Ratio") tv ∧ TyY K (ga K "Ratio") u H tu ∧ OkT (ga K "Ratio") tu ∧ (tv ≠ .type "int" → NewW H Q "number" v) ∧ (tv = .type "int" → tu ≠ .type "int" → NewW H Q "number" u) ∧
        (tv = .type "int" → tu = .type "int" → u = .int 0 ∧ New1 H Q "zero")) ∨
     (way = 1 ∧ Odd K H v ∧ NewW H Q "number" v) ∨
     (way = 2 ∧ BadL K H v 0 ∧ NewW H Q "number" v) ∨ (way = 3 ∧ BadL K H v 1 ∧ NewW H Q "number" v) ∨ (way = 4 ∧ BadL K H v 1 ∧ NewW H Q "number" v))
theorem okd__law_refused (T : TX K mg) : FnD P w K mg base 9 (ga K "_law_refused") ["_law_way", "_law_one", "_law_other"] (SpRef K) d__law_refused.name d__law_refused.qual d__law_refused.params d__law_refused.body d__law_refused.scope := by
  refine fnD_of (T.d 37) sc__law_refused (fun vs H Q E h => ?_) (fun cdv A outer s H vs Q E hr h => ?_)
  · obtain ⟨way, v, u, rfl, _⟩ := h; rfl
  · obtain ⟨way, v, u, rfl, k⟩ := h
    refine ⟨_, pss_cons (ps_try_mix rfl rfl takes0 (fun W pn xe tk po => pss_one (ps_if (pt_cmpR op_eq (pv 0) pe_int (nomark _)) (pss_one (ps_expr (pe_ratio2K K rfl T (hr.mono (by decide)) (by rfl) (T.g 30) (passes_len 4 tk) (pa_cons (pv 1) (pa_cons (pv 2) pa_nil))))) (pss_one (ps_if (pt_cmpR op_eq (pv 0) pe_int (nomark _)) (pss_one (ps_expr (pe_callR (ok_as_ratio T) (hr.mono (by decide)) (T.kg 22) (by rfl) (T.g 7) (passes_len 4 tk) (pa_cons (pv 1) pa_nil)))) (pss_one (ps_if (pt_cmpR op_eq (pv 0) pe_int (nomark _)) (pss_one (ps_expr (pe_callR (ok_total T) (hr.mono (by decide)) (T.kg 24) (by rfl) (T.g 9) (passes_len 4 tk) (pa_cons (pv 1) pa_nil)))) (pss_one (ps_if (pt_cmpR op_eq (pv 0) pe_int (nomark _)) (pss_one (ps_expr (pe_callR (ok_least T) (hr.mono (by decide)) (T.kg 25) (by rfl) (T.g 10) (passes_len 4 tk) (pa_cons (pv 1) pa_nil)))) (pss_one (ps_expr (pe_callR (ok_greatest T) (hr.mono (by decide)) (T.kg 26) (by rfl) (T.g 11) (passes_len 4 tk) (pa_cons (pv 1) pa_nil)))))))))))) (.named sc__law_refused.nd (i := 3) rfl rfl ⟨by rfl, by decide, .inl (T.g 27)⟩ (fun a oe cls d pn hz hf => pss_one (ps_ret (pe_tup (pa_cons pe_str (pa_cons (pe_xf (x_xn T) ((x_in T).n) hz hf (pv 3)) pa_nil))))) (.plain ⟨by rfl, by decide, .inl (T.g 29)⟩ (fun a oe cls d pn hz hf => pss_one (ps_ret (pe_tup (pa_cons pe_str pa_nil)))) (.plain ⟨by rfl, by decide, .inl (T.g 26)⟩ (fun a oe cls d pn hz hf => pss_one (ps_ret (pe_tup (pa_cons pe_str pa_nil)))) .nil)))) (pss_one (ps_ret pe_non)), ?_⟩
    have caught : ∀ {H1 : Hp} {D : Ends} {v : V}, NewW H1 D.rt "number" v → Refused (fun cls d H => ∀ σ : L2.St, σ.length = 4 → wMix K (fun _ _ _ _ => False) D [(.ref (ga K "InvalidNumber"), some 3, fun a cls d => tRet (tTup (tCons (tC (.str (Str.ofString "number"))) (tCons (tXf a cls d (ga K "InvalidNumber") "value" (tVar 3)) tNil)))),
        (.ref (ga K "ByZero"), none, fun a cls d => tRet (tTup (tCons (tC (.str (Str.ofString "zero"))) tNil))), (.ref (ga K "WinError"), none, fun a cls d => tRet (tTup (tCons (tC (.str (Str.ofString "another"))) tNil)))] cls d σ H) (ga K "InvalidNumber") H1 v := by
      intro H1 D v k d H2 s2 nd hd σ hσ
      refine ⟨true, (x_m T).2.1, fun _ a na => ?_, fun z => nomatch z⟩
      refine ⟨_, ?_, rfl, rfl, d, _, v, rfl, hd, rfl, sz 2, ?_⟩
      · rw [List.getElem?_set]; simp [hσ]
      intro t nt; generalize he' : upd _ _ _ = H3; obtain ⟨s3, ht⟩ := new_facts nt he'; clear he'
      exact k t H3 (s2.trans s3) ht
    rcases k with ⟨rfl, tv, tu, h1, h2, h3, h4, k1, k2, k3⟩ | ⟨rfl, ho, k⟩ | ⟨rfl, hb, k⟩ | ⟨rfl, hb, k⟩ | ⟨rfl, hb, k⟩
    · refine ⟨_, rfl, rfl, _, rfl, iteT (by decide) ?_⟩
      refine ⟨_, rfl, _, rfl, ⟨v, u, tv, tu, rfl, h1, h2, h3, h4, fun z => caught (k1 z), fun z1 z2 => caught (k2 z1 z2), fun p q e1 e2 e3 H' s' σ hσ => ?_, fun p q e1 e2 e3 => ?_⟩⟩
      · subst e1 e2
        obtain ⟨_, kz⟩ := k3 (ty_of_int h1) (ty_of_int h3)
        refine ⟨false, (x_m T).2.2.1, (fun z => nomatch z), fun _ => ⟨true, (x_m T).2.2.2.1, fun _ a na => ⟨sz 1, ?_⟩, fun z => nomatch z⟩⟩
        intro t nt; generalize he' : upd _ _ _ = H3; obtain ⟨s3, ht⟩ := new_facts nt he'; clear he'
        exact kz t H3 (s'.trans s3) ht
      · subst e1 e2
        obtain ⟨z, _⟩ := k3 (ty_of_int h1) (ty_of_int h3)
        cases z
        exact absurd rfl e3
    · refine ⟨_, rfl, rfl, _, rfl, iteF (by decide) ?_⟩
      refine ⟨_, rfl, rfl, _, rfl, iteT (by decide) ?_⟩
      exact ⟨_, rfl, v, rfl, .inl ⟨ho, caught k⟩⟩
    · refine ⟨_, rfl, rfl, _, rfl, iteF (by decide) ⟨_, rfl, rfl, _, rfl, iteF (by decide) ⟨_, rfl, rfl, _, rfl, iteT (by decide) ?_⟩⟩⟩
      exact ⟨_, rfl, v, rfl, .inl (hb.need (caught k))⟩
    · refine ⟨_, rfl, rfl, _, rfl, iteF (by decide) ⟨_, rfl, rfl, _, rfl, iteF (by decide) ⟨_, rfl, rfl, _, rfl, iteF (by decide) ⟨_, rfl, rfl, _, rfl, iteT (by decide) ?_⟩⟩⟩⟩
      exact ⟨_, rfl, v, rfl, .inl (hb.need (caught k))⟩
    · refine ⟨_, rfl, rfl, _, rfl, iteF (by decide) ⟨_, rfl, rfl, _, rfl, iteF (by decide) ⟨_, rfl, rfl, _, rfl, iteF (by decide) ⟨_, rfl, rfl, _, rfl, iteF (by decide) ?_⟩⟩⟩⟩
      exact ⟨_, rfl, v, rfl, .inl (hb.need (caught k))⟩
theorem ok__law_refused (T : TX K mg) : FnR P w K mg base (L2.CX P w) 9 (ga K "_law_refused") (SpRef K) := (okd__law_refused T).r (fun _ _ _ _ _ _ us hl => match us, hl with | [_, _, _], _ => rfl)
end
end Lw
set_option Elab.async false
set_option linter.all false
set_option maxRecDepth 100000
set_option maxHeartbeats 4000000
/-! What is drawn. -/
namespace Lw
open PySem PySem.Spec PyProof.Rows L2 He Wl SX
theorem bits_le (x : Int) : Builtin.Int.intBits x ≤ x.natAbs.log2 + 1 := by
  unfold Builtin.Int.intBits
  split <;> omega
theorem fine_nrm {u d : Int} (hd : d ≠ 0) (bu : Bd 100 u) (bd : Bd 100 d) : Fine (nrm u d) := ⟨nrm_low hd, (bu.le (nrm_le1 hd)).mono (by decide), (bd.le (nrm_le2 hd)).mono (by decide)⟩
section
variable {P : Program} {w : World} {K : PySem.W.Frag} {mg : Str → Option Value} {base : Heap}
structure SpDrawn (vs : List V) (H : Hp) (Q : VK) (E : XK) : Prop where
  h : ∃ b n, vs = [.ref b] ∧ Bag H b n ∧ n ≤ 80000 ∧ ∀ t p H', Fine p → SB b H H' → Bag H' b (n + 6) → H' t = some (tupP p) → Q (.ref t) H'
theorem mem_at {L : List V} {C : V → Prop} (h : ∀ v ∈ L, C v) {r : Int} (h0 : 0 ≤ r) (h1 : r < L.length) : ∃ v, atI L r = some v ∧ C v := by
  have hlt : r.toNat < L.length := by omega
  have e : L[r.toNat]? = some L[r.toNat] := by simp [hlt]
  refine ⟨L[r.toNat], ?_, h _ (List.getElem_mem hlt)⟩
  have z := atI_nat e
  rw [show ((r.toNat : Nat) : Int) = r by omega] at z
  exact z
theorem okd__law_drawn (T : TX K mg) : FnD P w K mg base 2 (ga K "_law_drawn") ["_law_bag_here"] SpDrawn d__law_drawn.name d__law_drawn.qual d__law_drawn.params d__law_drawn.body d__law_drawn.scope := by
  refine fnD_of (T.d 34) sc__law_drawn (fun vs H Q E h => ?_) (fun cdv A outer s H vs Q E hr h => ?_)
  · obtain ⟨b, n, rfl, _⟩ := h; rfl
  · obtain ⟨b, n, rfl, hb, hn, k⟩ := h
    refine ⟨_, pss_cons (ps_set (i := 1) sc__law_drawn.nd rfl (.inl rfl) (pe_lst (pa_cons (pe_op op_sub (pe_callR (ok__law_take T) (hr.mono (by decide)) (T.kg 29) (by rfl) (T.g 14) passL (pa_cons (pv 0) (pa_cons pe_int pa_nil))) pe_int) (pa_cons (pe_callR (ok__law_take T) (hr.mono (by decide)) (T.kg 29) (by rfl) (T.g 14) passL (pa_cons (pv 0) (pa_cons (pe_op op_pow pe_int pe_int) pa_nil))) (pa_cons (pe_op op_sub (pe_op op_pow pe_int pe_int) pe_int) (pa_cons (pe_callR (ok__law_take T) (hr.mono (by decide)) (T.kg 29) (by rfl) (T.g 14) passL (pa_cons (pv 0) (pa_cons pe_int pa_nil))) pa_nil)))))) (pss_cons (ps_par (by rfl) sc__law_drawn.nd (i := 2) (j := 3) rfl rfl (by decide) rfl rfl (pa_cons (pe_ix ix_seq (pv 1) (pe_callR (ok__law_take T) (hr.mono (by decide)) (T.kg 29) (by rfl) (T.g 14) passL (pa_cons (pv 0) (pa_cons pe_int pa_nil))) (fun _ _ => rfl)) (pa_cons (pe_ix ix_seq (pv 1) (pe_callR (ok__law_take T) (hr.mono (by decide)) (T.kg 29) (by rfl) (T.g 14) passL (pa_cons (pv 0) (pa_cons pe_int pa_nil))) (fun _ _ => rfl)) pa_nil)) (by rfl)) (pss_one (ps_ret (pe_callR (ok__law_parted T) (hr.mono (by decide)) (T.kg 30) (by rfl) (T.g 15) passL (pa_cons (pe_op op_mulW (pv 2) (pe_ix ix_seq (pe_lst (pa_cons pe_int (pa_cons (pe_un un_neg pe_int) pa_nil))) (pe_callR (ok__law_take T) (hr.mono (by decide)) (T.kg 29) (by rfl) (T.g 14) passL (pa_cons (pv 0) (pa_cons pe_int pa_nil))) (fun _ _ => rfl))) (pa_cons (pe_op op_add pe_int (pe_op op_mod (pe_op op_powW (pv 3) pe_int) (pe_op op_pow pe_int pe_int))) pa_nil)))))), ?_⟩
    have e30 : (10 : Int) ^ (30 : Int).toNat = 1000000000000000000000000000000 := by decide
    refine ⟨_, rfl, b, n, _, rfl, hb, by omega, by decide, bdS (by decide), fun d1 H1 g0 g1 s1 hb1 => ⟨_, _, rfl, rfl, ?_⟩⟩
    refine ⟨_, rfl, _, _, rfl, rfl, ⟨by decide, by decide, by decide⟩, b, _, _, rfl, hb1, by omega, by decide, bdS (by decide), fun d2 H2 g2 g3 s2 hb2 => ?_⟩
    refine ⟨_, _, rfl, rfl, ⟨by decide, by decide, by decide⟩, _, _, rfl, rfl, ?_⟩
    refine ⟨_, rfl, b, _, _, rfl, hb2, by omega, by decide, bdS (by decide), fun d3 H3 g4 g5 s3 hb3 => ⟨sz 4, ?_⟩⟩
    intro l nl; generalize he' : upd _ _ _ = H4; obtain ⟨s4, hl⟩ := new_facts nl he'; clear he'
    have hb4 := hb3.same s4
    have nb : l ≠ b := fun z => by
      obtain ⟨_, _, _, e, _⟩ := hb3
      rw [← z, nl] at e; cases e
    have hall : ∀ v ∈ [V.int (d1 - 6), .int d2, .int (10 ^ (30 : Int).toNat - 1), .int d3], ∃ i : Int, v = .int i ∧ Bd 100 i := by
      rw [e30] at g3 ⊢
      intro v hv
      simp only [List.mem_cons, List.not_mem_nil, or_false] at hv
      rcases hv with rfl | rfl | rfl | rfl
      · exact ⟨_, rfl, bd_of (by omega)⟩
      · exact ⟨_, rfl, bd_of (by omega)⟩
      · exact ⟨_, rfl, bd_of (by decide)⟩
      · exact ⟨_, rfl, bd_of (by omega)⟩
    refine ⟨_, rfl, _, rfl, b, _, _, rfl, hb4, by omega, by decide, bdS (by decide), fun r1 H5 r0 r1' s5 hb5 => ?_⟩
    obtain ⟨v1, e1, i1, rfl, b1⟩ := mem_at hall r0 (by simpa using r1')
    have hl5 := s5 _ _ hl nb
    refine rd_ixL hl5 e1 ⟨_, rfl, _, rfl, b, _, _, rfl, hb5, by omega, by decide, bdS (by decide), fun r2 H6 q0 q1 s6 hb6 => ?_⟩
    obtain ⟨v2, e2, i2, rfl, b2⟩ := mem_at hall q0 (by simpa using q1)
    have hl6 := s6 _ _ hl5 nb
    refine rd_ixL hl6 e2 ⟨_, _, rfl, ?_⟩
    refine ⟨_, rfl, _, rfl, sz 2, ?_⟩
    intro l2 nl2; generalize he' : upd _ _ _ = H7; obtain ⟨s7, hl2⟩ := new_facts nl2 he'; clear he'
    have hb7 := hb6.same s7
    have nb2 : l2 ≠ b := fun z => by
      obtain ⟨_, _, _, e, _⟩ := hb6
      rw [← z, nl2] at e; cases e
    refine ⟨_, rfl, b, _, _, rfl, hb7, by omega, by decide, bdS (by decide), fun r3 H8 q2 q3 s8 hb8 => ?_⟩
    have hsg : ∀ v ∈ [V.int 1, .int (-1)], ∃ i : Int, v = .int i ∧ (i = 1 ∨ i = -1) := by
      intro v hv
      simp only [List.mem_cons, List.not_mem_nil, or_false] at hv
      rcases hv with rfl | rfl
      · exact ⟨_, rfl, .inl rfl⟩
      · exact ⟨_, rfl, .inr rfl⟩
    obtain ⟨v3, e3, sg, rfl, hsg'⟩ := mem_at hsg q2 (by simpa using q3)
    have bsg : Bd 1 sg := by rcases hsg' with rfl | rfl <;> exact bd_of (by decide)
    refine rd_ixL (s8 _ _ hl2 nb2) e3 ⟨_, _, rfl, rfl, b1.mulW bsg (by decide) (by decide) (by decide), ?_⟩
    have hbits : (Builtin.Int.intBits i2 : Int) * 2 ≤ 2 ^ 27 := by
      have z := bits_le i2
      have y : i2.natAbs.log2 < 100 := Nat.lt_of_lt_of_le (PySem.Flt.log2_lt_of (by decide) b2) (by decide)
      omega
    refine ⟨_, rfl, _, _, rfl, rfl, ⟨by decide, hbits⟩, _, _, rfl, rfl, ⟨by decide, by decide, by decide⟩, _, _, rfl, rfl, (by show (0 : Int) < _; decide), _, _, rfl, rfl, ?_⟩
    have e29 : (10 : Int) ^ (29 : Int).toNat = 100000000000000000000000000000 := by decide
    rw [e29]
    generalize hm : i2 ^ (2 : Int).toNat % 100000000000000000000000000000 = m
    have m0 : 0 ≤ m := by rw [← hm]; exact Int.emod_nonneg _ (by decide)
    have m1 : m < 100000000000000000000000000000 := by rw [← hm]; exact Int.emod_lt_of_pos _ (by decide)
    have bd : Bd 100 (1 + m) := bd_of (by omega)
    have bu : Bd 100 (i1 * sg) := by
      rcases hsg' with rfl | rfl
      · rw [Int.mul_one]; exact b1
      · rw [Int.mul_neg, Int.mul_one]; exact b1.neg
    refine rd_frac (by omega) (bd.mono (by decide)) fun t H9 s9 ht => ?_
    have sf : SB b H H9 := ((((((s1.trans s2).trans s3).trans (Same.sb s4)).trans (s5.trans s6)).trans (Same.sb s7)).trans s8).trans (Same.sb s9)
    exact k t _ H9 (fine_nrm (by omega) bu bd) sf ((hb8.same s9).mono (by omega)) ht
theorem ok__law_drawn (T : TX K mg) : FnR P w K mg base (L2.CX P w) 2 (ga K "_law_drawn") SpDrawn := (okd__law_drawn T).r (fun _ _ _ _ _ _ us hl => match us, hl with | [_], _ => rfl)
end
/-! ### texts of which the length alone is told -/
section
variable {X : Cx}
theorem str_app_len (i j : Str) : (i ++ j).length = i.length + j.length := by
  rw [TL.len_tl, TL.tl_append, List.length_append, ← TL.len_tl, ← TL.len_tl]
theorem op_addL : OpR X (binaryOp .Add) (fun x y H Q => ∃ i j : Str, x = .str i ∧ y = .str j ∧ i.length + j.length ≤ 5000 ∧ ∀ z : Str, z.length = i.length + j.length → Q (.str z) H) :=
  OpR.imp op_add_str fun x y H Q ⟨i, j, e1, e2, hl, k⟩ => ⟨i, j, e1, e2, Nat.le_trans hl (by decide), k _ (str_app_len i j)⟩
theorem tl_small {m : Nat} (h : m ≤ 200) : Builtin.Str.tooLong m = false := by
  unfold Builtin.Str.tooLong
  have z : (200 : Nat) < sizeLine := by decide
  exact decide_eq_false (by omega)
theorem op_mulL : OpR X (binaryOp .Mult) (fun x y H Q => ∃ (a : Str) (n : Int), x = .str a ∧ y = .int n ∧ a.length = 1 ∧ 1 < n ∧ n ≤ 200 ∧ ∀ z : Str, (z.length : Int) = n → Q (.str z) H) := by
  refine OpR.imp op_mulTxt fun x y H Q ⟨a, n, e1, e2, h1, h2, h3, k⟩ => ⟨a, n, e1, e2, ⟨by simp; omega, fun _ _ => ?_, fun _ _ => ?_⟩, k _ ?_⟩
  · rw [h1]
    intro z
    have : (1 : Int) ≤ (2 ^ 63 - 1) / n := by
      rw [Int.le_ediv_iff_mul_le (by omega)]; omega
    omega
  · rw [h1]
    have e : (1 * n.toNat) ≤ 200 := by omega
    exact tl_small e
  · rw [len_mul]
    rw [h1]
    have : ¬ n < 0 := by omega
    simp [this]
theorem call_strL : CallR X (.type "str") (fun xs H Q => ∃ i, xs = [.int i] ∧ Bd 400 i ∧ ∀ z : Str, z.length ≤ 200 → Q (.str z) H) := by
  intro pins s σ H xs us Q I r h
  obtain ⟨i, e, b, k⟩ := h
  refine call_str_int pins s σ H xs us Q I r ⟨i, e, log_of b (by decide) (by decide), k _ ?_⟩
  rw [str_S, S_len]; exact intL_len b
theorem sl_L : SlR X (fun x lo hi H Q => ∃ z : Str, x = .str z ∧ z.length ≤ 5000 ∧ ((lo = none ∧ ∃ i, 0 ≤ i ∧ hi = some i) ∨ (hi = none ∧ ∃ i, 0 ≤ i ∧ lo = some i)) ∧ ∀ y : Str, y.length ≤ z.length → Q (.str y) H) := by
  intro pins s σ H x v vl vu lo hi sl Q I rx hs pl pu h
  obtain ⟨z, hx, hz, hlh, k⟩ := h
  refine C8.sl_txt pins s σ H x v vl vu lo hi sl Q I rx hs pl pu ⟨z, hx, Nat.le_trans hz (by decide), k _ ?_⟩
  have e : S (TL.tl z) = z := TL.mk_tl z
  rcases hlh with ⟨rfl, i, h0, rfl⟩ | ⟨rfl, i, h0, rfl⟩
  · rw [← e, slice_to h0, S_len, S_len, List.length_take]; omega
  · rw [← e, slice_from h0, S_len, S_len, List.length_drop]; omega
end
section
variable {P : Program} {w : World} {K : PySem.W.Frag} {mg : Str → Option Value} {base : Heap}
/-- a text, not too long -/
def ShortV (v : V) : Prop := ∃ y : Str, v = .str y ∧ y.length ≤ 2000
structure SpSpoilt (vs : List V) (H : Hp) (Q : VK) (E : XK) : Prop where
  h : ∃ b n x p, vs = [.ref b, .ref x] ∧ Bag H b n ∧ n ≤ 80000 ∧ H x = some (tupP p) ∧ Fine p ∧ ∀ y H', y.length ≤ 2000 → SB b H H' → Bag H' b (n + 3) → Q (.str y) H'
theorem okd__law_spoilt (T : TX K mg) : FnD P w K mg base 2 (ga K "_law_spoilt") ["_law_bag_here", "_law_x"] SpSpoilt d__law_spoilt.name d__law_spoilt.qual d__law_spoilt.params d__law_spoilt.body d__law_spoilt.scope := by
  refine fnD_of (T.d 35) sc__law_spoilt (fun vs H Q E h => ?_) (fun cdv A outer s H vs Q E hr h => ?_)
  · obtain ⟨b, n, x, p, rfl, _⟩ := h; rfl
  · obtain ⟨b, n, x, p, rfl, hb, hn, hx, fp, k⟩ := h
    refine ⟨_, pss_cons (ps_set (i := 2) sc__law_spoilt.nd rfl (.inl rfl) (pe_callR (ok__law_text T) (hr.mono (by decide)) (T.kg 31) (by rfl) (T.g 16) passL (pa_cons (pv 1) pa_nil))) (pss_cons (ps_set (i := 3) sc__law_spoilt.nd rfl (.inl rfl) (pe_callR (ok__law_take T) (hr.mono (by decide)) (T.kg 29) (by rfl) (T.g 14) passL (pa_cons (pv 0) (pa_cons (pe_op op_add (pe_callB call_len_str (by rfl) (T.f 38) (by decide +kernel) (pa_cons (pv 2) pa_nil)) pe_int) pa_nil)))) (pss_cons (ps_set (i := 4) sc__law_spoilt.nd rfl (.inl rfl) (pe_ix ix_seq pe_str (pe_callR (ok__law_take T) (hr.mono (by decide)) (T.kg 29) (by rfl) (T.g 14) passL (pa_cons (pv 0) (pa_cons pe_int pa_nil))) (fun _ _ => rfl))) (C8.pss_cut (ps_set (i := 5) sc__law_spoilt.nd rfl (.inl rfl) (pe_lst (pa_cons (pe_op op_addL (pe_op op_addL (pe_slice sl_L (pv 2) po_none (po_some (pv 3))) (pv 4)) (pe_slice sl_L (pv 2) (po_some (pv 3)) po_none)) (pa_cons (pe_op op_addL (pe_slice sl_L (pv 2) po_none (po_some (pv 3))) (pe_slice sl_L (pv 2) (po_some (pe_op op_add (pv 3) pe_int)) po_none)) (pa_cons (pe_op op_addL (pv 2) pe_str) (pa_cons (pe_op op_addL (pv 2) pe_str) (pa_cons (pe_op op_addL pe_str (pv 2)) pa_nil))))))) (C8.pss_cut (ps_set (i := 5) sc__law_spoilt.nd rfl (.inl rfl) (pe_op op_cat (pv 5) (pe_lst (pa_cons (pe_op op_addL (pe_op op_addL (pe_slice sl_L (pv 2) po_none (po_some (pv 3))) (pv 4)) (pe_slice sl_L (pv 2) (po_some (pe_op op_add (pv 3) pe_int)) po_none)) (pa_cons (pe_op op_addL pe_str (pv 2)) (pa_cons (pe_op op_addL (pv 2) pe_str) (pa_cons (pe_op op_addL pe_str (pv 2)) (pa_cons (pe_op op_addL pe_str (pv 2)) (pa_cons (pe_op op_addL pe_str (pv 2)) pa_nil))))))))) (C8.pss_cut (ps_set (i := 5) sc__law_spoilt.nd rfl (.inl rfl) (pe_op op_cat (pv 5) (pe_lst (pa_cons (pe_op op_addL (pe_op op_addL (pe_callTy call_strL (by rfl) (T.f 44) (by decide +kernel) (pa_cons (pe_op op_mulW pe_int (pe_ix ix_seq (pv 1) pe_int (fun _ _ => rfl))) pa_nil)) pe_str) (pe_callTy call_strL (by rfl) (T.f 44) (by decide +kernel) (pa_cons (pe_op op_mulW pe_int (pe_ix ix_seq (pv 1) pe_int (fun _ _ => rfl))) pa_nil))) (pa_cons (pe_op op_addL pe_str (pe_op op_mulL pe_str pe_int)) (pa_cons (pe_op op_mulL pe_str pe_int) (pa_cons (pe_op op_mulL pe_str pe_int) (pa_cons (pe_op op_addL pe_str (pe_op op_mulL pe_str pe_int)) pa_nil)))))))) (pss_one (ps_ret (pe_ix ix_seq (pe_op op_cat (pv 5) (pe_lst (pa_cons pe_str (pa_cons pe_str (pa_cons pe_str (pa_cons pe_str (pa_cons pe_str (pa_cons pe_str (pa_cons (pv 2) pa_nil))))))))) (pe_callR (ok__law_take T) (hr.mono (by decide)) (T.kg 29) (by rfl) (T.g 14) passL (pa_cons (pv 0) (pa_cons pe_int pa_nil))) (fun _ _ => rfl))))))))), ?_⟩
    have l1 := intL_len (fp.2.1.mono (n := 400) (by decide))
    have l2 := intL_len (fp.2.2.mono (n := 400) (by decide))
    refine ⟨_, rfl, x, p, rfl, hx, fp.2.1.mono (by decide), fp.2.2.mono (by decide), ?_⟩
    have hlen : (S (ratL p)).length ≤ 500 := by
      rw [S_len]; unfold ratL
      split
      · omega
      · rw [List.length_append, List.length_cons]; omega
    generalize S (ratL p) = line at hlen ⊢
    refine ⟨_, rfl, _, rfl, _, rfl, Nat.le_trans hlen (by decide), _, _, rfl, rfl, b, n, _, rfl, hb, by omega, by omega, bdS (by omega), fun pl H1 g0 g1 s1 hb1 => ?_⟩
    refine ⟨_, rfl, b, _, _, rfl, hb1, by omega, by decide, bdS (by decide), fun r H2 r0 r1 s2 hb2 => ?_⟩
    have hsg : ∃ c, atI (Str.ofString "0123456789/-+ .e_").cps.toList r = some c := by
      have hl : (Str.ofString "0123456789/-+ .e_").cps.toList.length = 17 := by decide +kernel
      have hlt : r.toNat < (Str.ofString "0123456789/-+ .e_").cps.toList.length := by omega
      have e : (Str.ofString "0123456789/-+ .e_").cps.toList[r.toNat]? = some (Str.ofString "0123456789/-+ .e_").cps.toList[r.toNat] := by simp
      have z := atI_nat e
      rw [show ((r.toNat : Nat) : Int) = r by omega] at z
      exact ⟨_, z⟩
    obtain ⟨c, ec⟩ := hsg
    refine .inr (.inr ⟨_, _, c, rfl, rfl, by decide +kernel, ec, ?_⟩)
    have hsl : (⟨#[c]⟩ : Str).length = 1 := rfl
    generalize (⟨#[c]⟩ : Str) = sign at hsl ⊢
    have hx2 := sb_pair s2 hb1 (sb_pair s1 hb hx)
    have sb2 := s1.trans s2
    clear ec c
    have q0 : (Str.ofString "/1").length = 2 := by decide +kernel
    have q1 : (Str.ofString "/0").length = 2 := by decide +kernel
    have q2 : (Str.ofString "+").length = 1 := by decide +kernel
    have q3 : (Str.ofString " ").length = 1 := by decide +kernel
    have q4 : (Str.ofString "\n").length = 1 := by decide +kernel
    have q5 : (Str.ofString "0").length = 1 := by decide +kernel
    have q6 : (Str.ofString "-").length = 1 := by decide +kernel
    have q7 : (Str.ofString "/").length = 1 := by decide +kernel
    have q8 : (Str.ofString "1/").length = 2 := by decide +kernel
    have q9 : (Str.ofString "2/").length = 2 := by decide +kernel
    have q10 : (Str.ofString "-0").length = 2 := by decide +kernel
    have q11 : (Str.ofString "").length = 0 := by decide +kernel
    have q12 : (Str.ofString "-0/5").length = 4 := by decide +kernel
    have q13 : (Str.ofString "1/-2").length = 4 := by decide +kernel
    have q14 : (Str.ofString "1/2/3").length = 5 := by decide +kernel
    have q15 : (Str.ofString "0/3").length = 3 := by decide +kernel
    have all5 : ∀ {y1 y2 y3 y4 y5 : Str}, y1.length ≤ 2000 → y2.length ≤ 2000 → y3.length ≤ 2000 → y4.length ≤ 2000 → y5.length ≤ 2000 → ∀ v ∈ [V.str y1, .str y2, .str y3, .str y4, .str y5], ShortV v := by
      intro y1 y2 y3 y4 y5 h1 h2 h3 h4 h5 v hv
      simp only [List.mem_cons, List.not_mem_nil, or_false] at hv
      rcases hv with rfl | rfl | rfl | rfl | rfl
      · exact ⟨_, rfl, h1⟩
      · exact ⟨_, rfl, h2⟩
      · exact ⟨_, rfl, h3⟩
      · exact ⟨_, rfl, h4⟩
      · exact ⟨_, rfl, h5⟩
    -- the first five
    refine ⟨fun σ' H' => ∃ l L, σ' = [some (.ref b), some (.ref x), some (.str line), some (.int pl), some (.str sign), some (.ref l)] ∧ Same H2 H' ∧ H' l = some (.lst L) ∧ L.length = 5 ∧ ∀ v ∈ L, ShortV v, ?_, ?_⟩
    · refine ⟨_, rfl, _, rfl, _, rfl, _, rfl, by omega, .inl ⟨rfl, pl, g0, rfl⟩, fun y1 h1 => ?_⟩
      refine ⟨_, rfl, _, _, rfl, rfl, by omega, fun y2 h2 => ?_⟩
      refine ⟨_, rfl, _, rfl, _, rfl, _, rfl, by omega, .inr ⟨rfl, pl, g0, rfl⟩, fun y3 h3 => ?_⟩
      refine ⟨_, _, rfl, rfl, by omega, fun y4 h4 => ?_⟩
      refine ⟨_, rfl, _, rfl, _, rfl, _, rfl, by omega, .inl ⟨rfl, pl, g0, rfl⟩, fun y5 h5 => ?_⟩
      refine ⟨_, rfl, _, rfl, _, _, rfl, rfl, _, rfl, _, rfl, by omega, .inr ⟨rfl, pl + 1, by omega, rfl⟩, fun y6 h6 => ?_⟩
      refine ⟨_, _, rfl, rfl, by omega, fun y7 h7 => ?_⟩
      refine ⟨_, rfl, _, _, rfl, rfl, by omega, fun y8 h8 => ?_⟩
      refine ⟨_, rfl, _, _, rfl, rfl, by omega, fun y9 h9 => ?_⟩
      refine ⟨_, rfl, _, _, rfl, rfl, by omega, fun y10 h10 => ⟨sz 5, ?_⟩⟩
      intro l nl; generalize he' : upd _ _ _ = H3; obtain ⟨s3, hl⟩ := new_facts nl he'; clear he'
      exact ⟨l, _, rfl, s3, hl, rfl, all5 (by omega) (by omega) (by omega) (by omega) (by omega)⟩
    rintro _ H3 ⟨l, L, rfl, s3, hl, hL, hv⟩
    -- six more
    refine ⟨fun σ' H' => ∃ l L, σ' = [some (.ref b), some (.ref x), some (.str line), some (.int pl), some (.str sign), some (.ref l)] ∧ Same H2 H' ∧ H' l = some (.lst L) ∧ L.length = 11 ∧ ∀ v ∈ L, ShortV v, ?_, ?_⟩
    · refine ⟨_, rfl, _, rfl, _, rfl, _, rfl, _, rfl, by omega, .inl ⟨rfl, pl, g0, rfl⟩, fun y1 h1 => ?_⟩
      refine ⟨_, rfl, _, _, rfl, rfl, by omega, fun y2 h2 => ?_⟩
      refine ⟨_, rfl, _, rfl, _, _, rfl, rfl, _, rfl, _, rfl, by omega, .inr ⟨rfl, pl + 1, by omega, rfl⟩, fun y3 h3 => ?_⟩
      refine ⟨_, _, rfl, rfl, by omega, fun y4 h4 => ?_⟩
      refine ⟨_, rfl, _, _, rfl, rfl, by omega, fun y5 h5 => ?_⟩
      refine ⟨_, rfl, _, _, rfl, rfl, by omega, fun y6 h6 => ?_⟩
      refine ⟨_, rfl, _, _, rfl, rfl, by omega, fun y7 h7 => ?_⟩
      refine ⟨_, rfl, _, _, rfl, rfl, by omega, fun y8 h8 => ?_⟩
      refine ⟨_, rfl, _, _, rfl, rfl, by omega, fun y9 h9 => ⟨sz 6, ?_⟩⟩
      intro m nm; generalize he' : upd _ _ _ = G1; obtain ⟨f1, hm⟩ := new_facts nm he'; clear he'
      refine ⟨l, m, L, _, rfl, rfl, f1 _ _ hl, hm, ?_, ?_⟩
      · rw [hL]; exact sz 11
      intro l' nl'; generalize he' : upd _ _ _ = G2; obtain ⟨f2, hl'⟩ := new_facts nl' he'; clear he'
      refine ⟨l', _, rfl, (s3.trans f1).trans f2, hl', by rw [List.length_append, hL]; rfl, fun v hv' => ?_⟩
      rcases List.mem_append.mp hv' with h | h
      · exact hv v h
      · rcases List.mem_cons.mp h with rfl | h
        · exact ⟨_, rfl, by omega⟩
        · exact all5 (y1 := y5) (y2 := y6) (y3 := y7) (y4 := y8) (y5 := y9) (by omega) (by omega) (by omega) (by omega) (by omega) v h
    rintro _ H4 ⟨l, L, rfl, s4, hl, hL, hv⟩
    -- five more
    refine ⟨fun σ' H' => ∃ l L, σ' = [some (.ref b), some (.ref x), some (.str line), some (.int pl), some (.str sign), some (.ref l)] ∧ Same H2 H' ∧ H' l = some (.lst L) ∧ L.length = 16 ∧ ∀ v ∈ L, ShortV v, ?_, ?_⟩
    · have hx4 := s4 _ _ hx2
      have two : Bd 2 2 := bd_of (by decide)
      refine ⟨_, rfl, _, rfl, rd_ixT hx4 rfl ⟨_, _, rfl, rfl, two.mulW fp.2.1 (by decide) (by decide) (by decide), _, rfl, (two.mul fp.2.1).mono (by decide), fun y1 h1 => ?_⟩⟩
      refine ⟨_, _, rfl, rfl, by omega, fun y2 h2 => ?_⟩
      refine ⟨_, rfl, rd_ixT hx4 rfl ⟨_, _, rfl, rfl, two.mulW fp.2.2 (by decide) (by decide) (by decide), _, rfl, (two.mul fp.2.2).mono (by decide), fun y3 h3 => ?_⟩⟩
      refine ⟨_, _, rfl, rfl, by omega, fun y4 h4 => ?_⟩
      refine ⟨_, _, rfl, rfl, by decide +kernel, by decide, by decide, fun y5 h5 => ?_⟩
      refine ⟨_, _, rfl, rfl, by omega, fun y6 h6 => ?_⟩
      refine ⟨_, _, rfl, rfl, by decide +kernel, by decide, by decide, fun y7 h7 => ?_⟩
      refine ⟨_, _, rfl, rfl, by decide +kernel, by decide, by decide, fun y8 h8 => ?_⟩
      refine ⟨_, _, rfl, rfl, by decide +kernel, by decide, by decide, fun y9 h9 => ?_⟩
      refine ⟨_, _, rfl, rfl, by omega, fun y10 h10 => ⟨sz 5, ?_⟩⟩
      intro m nm; generalize he' : upd _ _ _ = G1; obtain ⟨f1, hm⟩ := new_facts nm he'; clear he'
      refine ⟨l, m, L, _, rfl, rfl, f1 _ _ hl, hm, ?_, ?_⟩
      · rw [hL]; exact sz 16
      intro l' nl'; generalize he' : upd _ _ _ = G2; obtain ⟨f2, hl'⟩ := new_facts nl' he'; clear he'
      refine ⟨l', _, rfl, (s4.trans f1).trans f2, hl', by rw [List.length_append, hL]; rfl, fun v hv' => ?_⟩
      rcases List.mem_append.mp hv' with h | h
      · exact hv v h
      · exact all5 (by omega) (by omega) (by omega) (by omega) (by omega) v h
    rintro _ H5 ⟨l, L, rfl, s5, hl, hL, hv⟩
    refine ⟨_, rfl, _, rfl, sz 7, ?_⟩
    intro m nm; generalize he' : upd _ _ _ = G1; obtain ⟨f1, hm⟩ := new_facts nm he'; clear he'
    refine ⟨l, m, L, _, rfl, rfl, f1 _ _ hl, hm, ?_, ?_⟩
    · rw [hL]; exact sz 23
    intro l' nl'; generalize he' : upd _ _ _ = G2; obtain ⟨f2, hl'⟩ := new_facts nl' he'; clear he'
    have S2 := (s5.trans f1).trans f2
    have hbG := hb2.same S2
    have nb : l' ≠ b := fun z => by
      obtain ⟨_, _, _, e, _⟩ := hb2.same (s5.trans f1)
      rw [← z, nl'] at e; cases e
    refine ⟨_, rfl, b, _, _, rfl, hbG, by omega, by decide, bdS (by decide), fun r H6 r0 r1 s6 hb6 => ?_⟩
    have hall : ∀ v ∈ L ++ [V.str (Str.ofString "-0"), .str (Str.ofString ""), .str (Str.ofString "-0/5"), .str (Str.ofString "1/-2"), .str (Str.ofString "1/2/3"), .str (Str.ofString "0/3"), .str line], ShortV v := fun v hv' => by
      rcases List.mem_append.mp hv' with h | h
      · exact hv v h
      · rcases List.mem_cons.mp h with rfl | h
        · exact ⟨_, rfl, by omega⟩
        · rcases List.mem_cons.mp h with rfl | h
          · exact ⟨_, rfl, by omega⟩
          · exact all5 (by omega) (by omega) (by omega) (by omega) (by omega) v h
    obtain ⟨v, ev, y, rfl, hy⟩ := mem_at hall r0 (by rw [List.length_append, hL]; exact r1)
    refine rd_ixL (s6 _ _ hl' nb) ev (k y H6 hy ((sb2.trans (Same.sb S2)).trans s6) (hb6.mono (by omega)))
theorem ok__law_spoilt (T : TX K mg) : FnR P w K mg base (L2.CX P w) 2 (ga K "_law_spoilt") SpSpoilt := (okd__law_spoilt T).r (fun _ _ _ _ _ _ us hl => match us, hl with | [_, _], _ => rfl)
end
end Lw
set_option Elab.async false
set_option linter.all false
set_option maxRecDepth 100000
set_option maxHeartbeats 4000000
/-! What is odd. -/
namespace Lw
open PySem PySem.Spec PyProof.Rows L2 He Wl SX
/-- the same thing -/
def DId : Eqv := fun x y _ => x = y ∧ (flatV x = true ∨ ∃ a, x = .ref a)
theorem mon_id : Mon DId := fun _ _ _ _ _ d => d
theorem eqG_id {X : Cx} : EqG X 0 DId := by
  intro A pins s σ H x y u v sb I rx ry d
  obtain ⟨rfl, d⟩ := d
  rcases d with d | ⟨a, rfl⟩
  · refine eqG_flat A pins s σ H x x u v sb I rx ry ⟨d, d, ?_⟩
    cases x with
    | non => rfl
    | bl b => show (b == b) = true; simp
    | int i => show (i == i) = true; simp
    | str z => show (z == z) = true; simp
    | byt _ => cases d
    | flt _ => cases d
    | ref _ => cases d
    | ty _ => cases d
  · cases rx
    cases ry
    exact SeqAt.EqAt.same (A := A) (s := s) (.ref a) X.prog X.w X.xe _ ⟨rfl, H, I, Ext.rfl'⟩
def DW (K : PySem.W.Frag) : Eqv := fun x y H => (DId x y H ∨ DList DId x y H) ∨ DTup K DId x y H
theorem mon_w (K : PySem.W.Frag) : Mon (DW K) := Mon.or (Mon.or mon_id (mon_list mon_id)) (mon_tup mon_id)
theorem eqG_w {X : Cx} : EqG X 1 (DW X.K) := EqG.or (EqG.or (eqG_id.mono (Nat.zero_le _)) (eqG_list mon_id eqG_id)) (eqG_tup mon_id eqG_id)
section
variable {P : Program} {w : World} {K : PySem.W.Frag} {mg : Str → Option Value} {base : Heap}
/-- two pairs of the same word, their things seen equal -/
theorem rd_tW {t1 t2 : Addr} {H : Hp} {x : Str} {v u : V} {C : Prop} (h1 : H t1 = some (.tup [.str x, v])) (h2 : H t2 = some (.tup [.str x, u])) (d : DW K v u H) (k : C) : DTup K (DW K) (.ref t1) (.ref t2) H ∧ C :=
  ⟨⟨t1, t2, _, _, rfl, rfl, SqT.of h1, SqT.of h2, .cons (.inl (.inl ⟨rfl, .inl rfl⟩)) (.cons d .nil)⟩, k⟩
theorem rd_t1 {t1 t2 : Addr} {H : Hp} {x : Str} {C : Prop} (h1 : H t1 = some (.tup [.str x])) (h2 : H t2 = some (.tup [.str x])) (k : C) : DTup K (DW K) (.ref t1) (.ref t2) H ∧ C :=
  ⟨⟨t1, t2, _, _, rfl, rfl, SqT.of h1, SqT.of h2, .cons (.inl (.inl ⟨rfl, .inl rfl⟩)) .nil⟩, k⟩
/-- no whole number; its kind -/
def Nint (K : PySem.W.Frag) (H : Hp) (v : V) : Prop := (∃ t, TyY K (ga K "Ratio") v H t ∧ OkT (ga K "Ratio") t ∧ t ≠ .type "int") ∧ (flatV v = true ∨ ∃ a, v = .ref a)
theorem Nint.same {H H' : Hp} {v : V} (s : Same H H') (h : Nint K H v) : Nint K H' v := by
  obtain ⟨⟨t, h1, h2, h3⟩, h4⟩ := h
  exact ⟨⟨t, tyY_same s h1, h2, h3⟩, h4⟩
theorem tyY_sb {H H' : Hp} {b : Addr} {n : Int} {y : V} {t : Value} (s : SB b H H') (hb : Bag H b n) (hne : y ≠ .ref b) (h : TyY K (ga K "Ratio") y H t) : TyY K (ga K "Ratio") y H' t := by
  rcases h with h | ⟨rfl, a, dy, ws, rfl, h⟩
  · refine .inl ?_
    have go : ∀ {a : Addr} {o : HO}, y = .ref a → H a = some o → H' a = some o := fun e1 e => s _ _ e fun z => hne (by rw [e1, z])
    cases h with
    | base h =>
      refine .base ?_
      cases h with
      | non => exact .non
      | bl x => exact .bl x
      | int i => exact .int i
      | str x => exact .str x
      | flt x => exact .flt x
      | lst e => exact .lst (go rfl e)
      | frz e => exact .frz (go rfl e)
      | tup e => exact .tup (go rfl e)
      | dK e => exact .dK (go rfl e)
      | dT e => exact .dT (go rfl e)
      | ins e cl ha hn htk hm => exact .ins (go rfl e) cl ha hn htk hm
    | byt b => exact .byt b
    | set e => exact .set (go rfl e)
    | kList e c => exact .kList e c
    | kTuple e c => exact .kTuple e c
    | kDict e c => exact .kDict e c
    | fTuple e => exact .fTuple (go rfl e)
    | fDict e => exact .fDict (go rfl e)
  · refine .inr ⟨rfl, a, dy, ws, rfl, ?_⟩
    rcases h with ⟨h1, h2⟩ | ⟨h1, h2⟩
    · exact .inl ⟨sb_keep s hb h1 (fun l z => nomatch z), h2⟩
    · exact .inr ⟨sb_keep s hb h1 (fun l z => nomatch z), sb_keep s hb h2 (fun l z => nomatch z)⟩
theorem Nint.sb {H H' : Hp} {b : Addr} {n : Int} {v : V} (s : SB b H H') (hb : Bag H b n) (hne : v ≠ .ref b) (h : Nint K H v) : Nint K H' v := by
  obtain ⟨⟨t, h1, h2, h3⟩, h4⟩ := h
  exact ⟨⟨t, tyY_sb s hb hne h1, h2, h3⟩, h4⟩
theorem Nint.id {H : Hp} {v : V} (h : Nint K H v) : DW K v v H := .inl (.inl ⟨rfl, h.2⟩)
theorem nint_ty {H : Hp} {v : V} {n : String} (hn : n ∈ ordT) (h1 : n ≠ "int") (h : TyX K H v (.type n)) (hf : flatV v = true ∨ ∃ a, v = .ref a) : Nint K H v := ⟨⟨.type n, .inl h, .inr ⟨n, hn, rfl⟩, fun z => h1 (by cases z; rfl)⟩, hf⟩
theorem ti (H : Hp) (i : Int) : TyY K (ga K "Ratio") (.int i) H (.type "int") := .inl (.base (.int i))
theorem oi : OkT (ga K "Ratio") (.type "int") := .inr ⟨"int", by decide, rfl⟩
theorem kinds2 {H : Hp} {x y : V} {b1 b2 : Bool} (hx : ∃ t, TyY K (ga K "Ratio") x H t ∧ OkT (ga K "Ratio") t ∧ numT K t = b1) (hy : ∃ t, TyY K (ga K "Ratio") y H t ∧ OkT (ga K "Ratio") t ∧ numT K t = b2) : Kinds K H [x, y] [b1, b2] := by
  refine ⟨rfl, fun i z hz => ?_⟩
  match i, hz with
  | 0, hz => cases hz; obtain ⟨t, h1, h2, h3⟩ := hx; exact ⟨t, b1, h1, h2, h3, rfl⟩
  | 1, hz => cases hz; obtain ⟨t, h1, h2, h3⟩ := hy; exact ⟨t, b2, h1, h2, h3, rfl⟩
theorem kinds1 {H : Hp} {x : V} {b1 : Bool} (hx : ∃ t, TyY K (ga K "Ratio") x H t ∧ OkT (ga K "Ratio") t ∧ numT K t = b1) : Kinds K H [x] [b1] := by
  refine ⟨rfl, fun i z hz => ?_⟩
  match i, hz with
  | 0, hz => cases hz; obtain ⟨t, h1, h2, h3⟩ := hx; exact ⟨t, b1, h1, h2, h3, rfl⟩
theorem k_i {H : Hp} (i : Int) : ∃ t, TyY K (ga K "Ratio") (.int i) H t ∧ OkT (ga K "Ratio") t ∧ numT K t = true := ⟨_, ti _ _, oi, by unfold numT; simp⟩
theorem k_o {H : Hp} {v : V} {n : String} (hn : n ∈ ordT) (h1 : n ≠ "int") (h : TyX K H v (.type n)) : ∃ t, TyY K (ga K "Ratio") v H t ∧ OkT (ga K "Ratio") t ∧ numT K t = false := ⟨.type n, .inl h, .inr ⟨n, hn, rfl⟩, by unfold numT; simp [h1]⟩
/-- refused by all three -/
def Bad3 (K : PySem.W.Frag) (H : Hp) (v : V) : Prop := BadL K H v 0 ∧ BadL K H v 1 ∧ DW K v v H
theorem bad_ty {H : Hp} {v : V} {n : String} (hn : n ∈ ordT) (h1 : n ≠ "list") (h2 : n ≠ "tuple") (h : TyX K H v (.type n)) (hf : flatV v = true ∨ ∃ a, v = .ref a) : Bad3 K H v :=
  ⟨.inl ⟨.type n, .inl h, .inr ⟨n, hn, rfl⟩, fun z => h1 (by cases z; rfl), fun z => h2 (by cases z; rfl)⟩, .inl ⟨.type n, .inl h, .inr ⟨n, hn, rfl⟩, fun z => h1 (by cases z; rfl), fun z => h2 (by cases z; rfl)⟩, .inl (.inl ⟨rfl, hf⟩)⟩
theorem bad_seq {H : Hp} {a : Addr} {o : HO} {xs : List V} {bs : List Bool} (h : H a = some o) (ho : SeqO o xs) (hk : Kinds K H xs bs) (hl : xs.length < 100) (hb : bs.all id = false) : Bad3 K H (.ref a) :=
  ⟨.inr ⟨a, o, xs, bs, rfl, h, ho, hk, hl, .inr hb⟩, .inr ⟨a, o, xs, bs, rfl, h, ho, hk, hl, .inr hb⟩, .inl (.inl ⟨rfl, .inr ⟨a, rfl⟩⟩)⟩
theorem BadL.same {H H' : Hp} {v : V} {n : Int} (s : Same H H') (h : BadL K H v n) : BadL K H' v n := by
  rcases h with ⟨t, h1, h2⟩ | ⟨a, o, xs, bs, h1, h2, h3, ⟨h4, h5⟩, h6⟩
  · exact .inl ⟨t, tyY_same s h1, h2⟩
  · exact .inr ⟨a, o, xs, bs, h1, s _ _ h2, h3, ⟨h4, fun i x hx => let ⟨t, b, g1, g2⟩ := h5 i x hx; ⟨t, b, tyY_same s g1, g2⟩⟩, h6⟩
theorem Bad3.same {H H' : Hp} {v : V} (s : Same H H') (h : Bad3 K H v) : Bad3 K H' v := ⟨h.1.same s, h.2.1.same s, mon_w K _ _ _ _ s h.2.2⟩
structure SpOdd (vs : List V) (H : Hp) (Q : VK) (E : XK) : Prop where
  h : ∃ b n, vs = [.ref b] ∧ Bag H b n ∧ n ≤ 80000 ∧ ∀ H', SB b H H' → Bag H' b (n + 2) → Q (.bl true) H'
theorem okd__law_odd_right (T : TX K mg) : FnD P w K mg base 10 (ga K "_law_odd_right") ["_law_bag_here"] SpOdd d__law_odd_right.name d__law_odd_right.qual d__law_odd_right.params d__law_odd_right.body d__law_odd_right.scope := by
  refine fnD_of (T.d 38) sc__law_odd_right (fun vs H Q E h => ?_) (fun cdv A outer s H vs Q E hr h => ?_)
  · obtain ⟨b, n, rfl, _⟩ := h; rfl
  · obtain ⟨b, n, rfl, hb, hn, k⟩ := h
    refine ⟨_, pss_cons (ps_set (i := 1) sc__law_odd_right.nd rfl (.inl rfl) (pe_ix ix_seq (pe_lst (pa_cons pe_non (pa_cons pe_bl (pa_cons pe_str (pa_cons (pe_lst (pa_cons pe_int pa_nil)) (pa_cons (pe_tup (pa_cons pe_int pa_nil)) (pa_cons pe_dnewK (pa_cons pe_bl (pa_cons (pe_ratio2 T (hr.mono (by decide)) (by rfl) (T.g 30) passL (pa_cons pe_int (pa_cons pe_int pa_nil))) pa_nil))))))))) (pe_callR (ok__law_take T) (hr.mono (by decide)) (T.kg 29) (by rfl) (T.g 14) passL (pa_cons (pv 0) (pa_cons pe_int pa_nil))) (fun _ _ => rfl))) (C8.pss_cut (ps_set (i := 2) sc__law_odd_right.nd rfl (.inl rfl) (pe_ix ix_seq (pe_lst (pa_cons pe_int (pa_cons pe_int (pa_cons (pe_op op_sub (pe_op op_pow pe_int pe_int) pe_int) pa_nil)))) (pe_callR (ok__law_take T) (hr.mono (by decide)) (T.kg 29) (by rfl) (T.g 14) passL (pa_cons (pv 0) (pa_cons pe_int pa_nil))) (fun _ _ => rfl))) (C8.pss_cut (ps_for (passes_of rfl) rfl (pi_list (pe_lst (pa_cons (pe_tup (pa_cons (pv 1) (pa_cons pe_int (pa_cons (pv 1) pa_nil)))) (pa_cons (pe_tup (pa_cons (pv 1) (pa_cons pe_non (pa_cons (pv 1) pa_nil)))) (pa_cons (pe_tup (pa_cons (pv 2) (pa_cons (pv 1) (pa_cons (pv 1) pa_nil)))) (pa_cons (pe_tup (pa_cons (pv 1) (pa_cons (pv 2) (pa_cons (pv 1) pa_nil)))) pa_nil)))))) (pg_tup rfl (pgs_cons (pg_name (i := 3) sc__law_odd_right.nd rfl (.inl rfl)) (pgs_cons (pg_name (i := 4) sc__law_odd_right.nd rfl (.inl rfl)) (pgs_cons (pg_name (i := 5) sc__law_odd_right.nd rfl (.inl rfl)) pgs_nil)))) (pss_one (ps_if (pt_cmpR (op_neTG (mon_w _) eqG_w (hr.mono (by decide))) (pe_callR (ok__law_refused T) (hr.mono (by decide)) (T.kg 37) (by rfl) (T.g 22) passL (pa_cons pe_int (pa_cons (pv 3) (pa_cons (pv 4) pa_nil)))) (pe_tup (pa_cons pe_str (pa_cons (pv 5) pa_nil))) (nomark _)) (pss_one (ps_ret pe_bl)) (pss_nil)))) (C8.pss_cut (ps_if (pt_cmpR (op_neTG (mon_w _) eqG_w (hr.mono (by decide))) (pe_callR (ok__law_refused T) (hr.mono (by decide)) (T.kg 37) (by rfl) (T.g 22) passL (pa_cons pe_int (pa_cons (pv 2) (pa_cons pe_int pa_nil)))) (pe_tup (pa_cons pe_str pa_nil)) (nomark _)) (pss_one (ps_ret pe_bl)) (pss_nil)) (C8.pss_cut (ps_if (PW.pt (pw_and (pt_not (pt_val (pe_callB (call_isiY (x_r T).cl (x_r T).isi) (by rfl) (T.f 37) (by decide +kernel) (pa_cons (pv 1) (pa_cons (pe_glob (v := .ref (ga K "Ratio")) (by rfl) (T.g 30) rfl) pa_nil))))) (pw_and1 (pt_cmpR (op_neTG (mon_w _) eqG_w (hr.mono (by decide))) (pe_callR (ok__law_refused T) (hr.mono (by decide)) (T.kg 37) (by rfl) (T.g 22) passL (pa_cons pe_int (pa_cons (pv 1) (pa_cons pe_int pa_nil)))) (pe_tup (pa_cons pe_str (pa_cons (pv 1) pa_nil))) (nomark _))))) (pss_one (ps_ret pe_bl)) (pss_nil)) (C8.pss_cut (ps_for (passes_of rfl) rfl (pi_list (pe_lst (pa_cons pe_int (pa_cons pe_int (pa_cons pe_int pa_nil))))) (pg_name (i := 6) sc__law_odd_right.nd rfl (.inl rfl)) (pss_one (ps_for (passes_of rfl) rfl (pi_list (pe_lst (pa_cons pe_non (pa_cons pe_int (pa_cons pe_str (pa_cons pe_dnewK (pa_cons (pe_lst (pa_cons (pv 2) (pa_cons pe_non pa_nil))) (pa_cons (pe_tup (pa_cons pe_bl pa_nil)) (pa_cons (pe_lst (pa_cons (pv 2) (pa_cons (pe_lst (pa_cons (pv 2) pa_nil)) pa_nil))) (pa_cons (pe_lst (pa_cons (pv 2) (pa_cons pe_str pa_nil))) pa_nil)))))))))) (pg_name (i := 7) sc__law_odd_right.nd rfl (.inl rfl)) (pss_one (ps_if (pt_cmpR (op_neTG (mon_w _) eqG_w (hr.mono (by decide))) (pe_callR (ok__law_refused T) (hr.mono (by decide)) (T.kg 37) (by rfl) (T.g 22) passL (pa_cons (pv 6) (pa_cons (pv 7) (pa_cons pe_int pa_nil)))) (pe_tup (pa_cons pe_str (pa_cons (pv 7) pa_nil))) (nomark _)) (pss_one (ps_ret pe_bl)) (pss_nil)))))) (pss_one (ps_ret (pe_and (pe_cmpR (op_eqTG (mon_w _) eqG_w (hr.mono (by decide))) (pe_callR (ok__law_refused T) (hr.mono (by decide)) (T.kg 37) (by rfl) (T.g 22) passL (pa_cons pe_int (pa_cons (pe_lst pa_nil) (pa_cons pe_int pa_nil)))) (pe_tup (pa_cons pe_str (pa_cons (pe_lst pa_nil) pa_nil))) (nomark _)) (pe_one (pe_cmpR (op_eqTG (mon_w _) eqG_w (hr.mono (by decide))) (pe_callR (ok__law_refused T) (hr.mono (by decide)) (T.kg 37) (by rfl) (T.g 22) passL (pa_cons pe_int (pa_cons (pe_tup pa_nil) (pa_cons pe_int pa_nil)))) (pe_tup (pa_cons pe_str (pa_cons (pe_tup pa_nil) pa_nil))) (nomark _))))))))))), ?_⟩
    -- something odd
    refine ⟨sz 1, ?_⟩
    intro l1 nl1; generalize he' : upd _ _ _ = G1; obtain ⟨f1, hl1⟩ := new_facts nl1 he'; clear he'
    refine ⟨sz 1, ?_⟩
    intro t1 nt1; generalize he' : upd _ _ _ = G2; obtain ⟨f2, ht1⟩ := new_facts nt1 he'; clear he'
    intro d1 nd1
    generalize he' : upd G2 d1 _ = G3
    obtain ⟨f3, hd1⟩ := new_facts nd1 he'
    clear he'
    refine rd_ratio (by decide) (bdS (by decide)) fun c G4 f4 hc => ⟨sz 8, ?_⟩
    intro l2 nl2; generalize he' : upd _ _ _ = G5; obtain ⟨f5, hl2⟩ := new_facts nl2 he'; clear he'
    have F5 := (((f1.trans f2).trans f3).trans f4).trans f5
    have hb5 := hb.same F5
    have nb : ∀ {G : Hp} {l : Addr}, Same H G → G l = none → l ≠ b := fun sg ng z => by
      obtain ⟨_, _, _, e, _⟩ := hb.same sg
      rw [z, e] at ng; cases ng
    have n1 : l1 ≠ b := nb (fun _ _ e => e) nl1
    have n2 : l2 ≠ b := nb (((f1.trans f2).trans f3).trans f4) nl2
    have nt : t1 ≠ b := nb f1 nt1
    have nd : d1 ≠ b := nb (f1.trans f2) nd1
    have nc : c ≠ b := fun z => by
      obtain ⟨_, _, _, e, _⟩ := hb.same (((f1.trans f2).trans f3).trans f4)
      obtain ⟨dc, h⟩ := hc
      rw [z] at h
      rcases h with ⟨h, _⟩ | ⟨h, _⟩
      · rw [e] at h; cases h
      · rw [e] at h; cases h
    refine ⟨_, rfl, b, n, _, rfl, hb5, by omega, by decide, bdS (by decide), fun r H1 r0 r1 s1 hb1 => ?_⟩
    have hall : ∀ v ∈ [V.non, .bl true, .str (Str.ofString "3"), .ref l1, .ref t1, .ref d1, .bl false, .ref c], Nint K H1 v ∧ v ≠ .ref b := by
      intro v hv
      simp only [List.mem_cons, List.not_mem_nil, or_false] at hv
      rcases hv with rfl | rfl | rfl | rfl | rfl | rfl | rfl | rfl
      · exact ⟨nint_ty (n := "NoneType") (by decide) (by decide) (.base .non) (.inl rfl), (fun z => nomatch z)⟩
      · exact ⟨nint_ty (n := "bool") (by decide) (by decide) (.base (.bl _)) (.inl rfl), (fun z => nomatch z)⟩
      · exact ⟨nint_ty (n := "str") (by decide) (by decide) (.base (.str _)) (.inl rfl), (fun z => nomatch z)⟩
      · exact ⟨nint_ty (n := "list") (by decide) (by decide) (.base (.lst (s1 _ _ ((((f2.trans f3).trans f4).trans f5) _ _ hl1) n1))) (.inr ⟨_, rfl⟩), (fun z => n1 (by cases z; rfl))⟩
      · exact ⟨nint_ty (n := "tuple") (by decide) (by decide) (.base (.tup (sb_keep s1 hb5 (((f3.trans f4).trans f5) _ _ ht1) (fun l z => nomatch z)))) (.inr ⟨_, rfl⟩), (fun z => nt (by cases z; rfl))⟩
      · exact ⟨nint_ty (n := "dict") (by decide) (by decide) (.base (.dK (sb_keep s1 hb5 ((f4.trans f5) _ _ hd1) (fun l z => nomatch z)))) (.inr ⟨_, rfl⟩), (fun z => nd (by cases z; rfl))⟩
      · exact ⟨nint_ty (n := "bool") (by decide) (by decide) (.base (.bl _)) (.inl rfl), (fun z => nomatch z)⟩
      · obtain ⟨dc, hdc⟩ := sb_rat s1 hb5 (hc.same f5)
        exact ⟨⟨⟨.ref (ga K "Ratio"), .inr ⟨rfl, c, dc, _, rfl, hdc⟩, .inl rfl, fun z => nomatch z⟩, .inr ⟨_, rfl⟩⟩, (fun z => nc (by cases z; rfl))⟩
    obtain ⟨o, eo, ho, hob⟩ := mem_at hall r0 (by simpa using r1)
    refine rd_ixL (s1 _ _ hl2 n2) eo ?_
    have sb1 : SB b H H1 := (Same.sb F5).trans s1
    clear hall eo hc hl1 hl2 ht1 hd1 F5
    -- a good number
    refine ⟨fun σ' H' => ∃ g : Int, σ' = [some (.ref b), some o, some (.int g), none, none, none, none, none] ∧ SB b H H' ∧ Bag H' b (n + 2) ∧ Nint K H' o, ?_, ?_⟩
    · refine ⟨_, _, rfl, rfl, ⟨by decide, by decide, by decide⟩, _, _, rfl, rfl, sz 3, ?_⟩
      intro l3 nl3; generalize he' : upd _ _ _ = H2; obtain ⟨s2, hl3⟩ := new_facts nl3 he'; clear he'
      have n3 : l3 ≠ b := fun z => by
        obtain ⟨_, _, _, e, _⟩ := hb1
        rw [← z, nl3] at e; cases e
      refine ⟨_, rfl, b, _, _, rfl, hb1.same s2, by omega, by decide, bdS (by decide), fun q H3 q0 q1 s3 hb3 => ?_⟩
      have hg : ∀ v ∈ [V.int 0, .int 7, .int (10 ^ (30 : Int).toNat - 1)], ∃ i : Int, v = .int i := by
        intro v hv
        simp only [List.mem_cons, List.not_mem_nil, or_false] at hv
        rcases hv with rfl | rfl | rfl <;> exact ⟨_, rfl⟩
      obtain ⟨v, ev, g, rfl⟩ := mem_at hg q0 (by simpa using q1)
      exact rd_ixL (s3 _ _ hl3 n3) ev ⟨g, rfl, (sb1.trans (Same.sb s2)).trans s3, hb3.mono (by omega), Nint.sb s3 (hb1.same s2) hob (ho.same s2)⟩
    rintro _ H2 ⟨g, rfl, sb2, hb2, ho2⟩
    clear hb1 s1 sb1 ho
    have K1 : ∀ {H' : Hp}, Same H2 H' → SB b H H' ∧ Bag H' b (n + 2) := fun s => ⟨sb2.trans (Same.sb s), hb2.same s⟩
    -- four ways
    refine ⟨fun σ' H' => Same H2 H' ∧ ∃ z3 z4 z5, σ' = [some (.ref b), some o, some (.int g), z3, z4, z5, none, none], ?_, ?_⟩
    · refine ⟨_, rfl, _, rfl, sz 3, ?_⟩
      intro q1 nq1; generalize he' : upd _ _ _ = G1; obtain ⟨f1, h1⟩ := new_facts nq1 he'; clear he'
      refine ⟨_, rfl, _, rfl, sz 3, ?_⟩
      intro q2 nq2; generalize he' : upd _ _ _ = G2; obtain ⟨f2, h2⟩ := new_facts nq2 he'; clear he'
      refine ⟨_, rfl, _, rfl, _, rfl, sz 3, ?_⟩
      intro q3 nq3; generalize he' : upd _ _ _ = G3; obtain ⟨f3, h3⟩ := new_facts nq3 he'; clear he'
      refine ⟨_, rfl, _, rfl, _, rfl, sz 3, ?_⟩
      intro q4 nq4; generalize he' : upd _ _ _ = G4; obtain ⟨f4, h4⟩ := new_facts nq4 he'; clear he'
      refine ⟨sz 4, ?_⟩
      intro ql nql; generalize he' : upd _ _ _ = G5; obtain ⟨f5, hql⟩ := new_facts nql he'; clear he'
      have F5 := (((f1.trans f2).trans f3).trans f4).trans f5
      have ho5 := ho2.same F5
      obtain ⟨⟨to, hto, hoo, hto'⟩, hof⟩ := id ho5
      have tn : TyY K (ga K "Ratio") .non G5 (.type "NoneType") := .inl (.base .non)
      have on : OkT (ga K "Ratio") (.type "NoneType") := .inr ⟨"NoneType", by decide, rfl⟩
      have trip : ∀ x ∈ [V.ref q1, .ref q2, .ref q3, .ref q4], ∃ (q : Addr) (one other due : V), x = .ref q ∧ G5 q = some (.tup [one, other, due]) ∧ due = o ∧ ∃ tv tu, TyY K (ga K "Ratio") one G5 tv ∧ OkT (ga K "Ratio") tv ∧ TyY K (ga K "Ratio") other G5 tu ∧ OkT (ga K "Ratio") tu ∧ ((tv ≠ .type "int" ∧ one = o) ∨ (tv = .type "int" ∧ tu ≠ .type "int" ∧ other = o)) := by
        intro x hx
        simp only [List.mem_cons, List.not_mem_nil, or_false] at hx
        rcases hx with rfl | rfl | rfl | rfl
        · exact ⟨q1, _, _, _, rfl, (((f2.trans f3).trans f4).trans f5) _ _ h1, rfl, to, _, hto, hoo, ti _ _, oi, .inl ⟨hto', rfl⟩⟩
        · exact ⟨q2, _, _, _, rfl, ((f3.trans f4).trans f5) _ _ h2, rfl, to, _, hto, hoo, tn, on, .inl ⟨hto', rfl⟩⟩
        · exact ⟨q3, _, _, _, rfl, (f4.trans f5) _ _ h3, rfl, _, to, ti _ _, oi, hto, hoo, .inr ⟨rfl, hto', rfl⟩⟩
        · exact ⟨q4, _, _, _, rfl, f5 _ _ h4, rfl, to, _, hto, hoo, ti _ _, oi, .inl ⟨hto', rfl⟩⟩
      refine ⟨ql, rfl, ⟨_, SqL.of hql⟩, for_list (K := K) (a := ql) (xs := [V.ref q1, .ref q2, .ref q3, .ref q4]) (fun i σ H3 => Same G5 H3 ∧ ∃ z3 z4 z5, σ = [some (.ref b), some o, some (.int g), z3, z4, z5, none, none]) ⟨(fun _ _ e => e), none, none, none, rfl⟩ (fun i σ H3 _ h => SqL.of (h.1 _ _ hql)) ?_ ?_⟩
      · rintro i x σ H3 hx ⟨s3, z3, z4, z5, rfl⟩
        obtain ⟨q, one, other, due, rfl, hq, rfl, tv, tu, e1, e2, e3, e4, e5⟩ := trip x (List.mem_of_getElem? hx)
        refine ⟨q, _, rfl, SqT.of (s3 _ _ hq), rfl, _, _, rfl, _, _, rfl, _, _, rfl, rfl, ?_⟩
        have ho3 := ho5.same s3
        refine ⟨_, rfl, _, rfl, 0, one, other, rfl, .inl ⟨rfl, tv, tu, tyY_same s3 e1, e2, tyY_same s3 e3, e4, fun z => ?_, fun z1 z2 => ?_, fun z1 z2 => ?_⟩⟩
        · have : one = due := by
            rcases e5 with ⟨_, h⟩ | ⟨h, _⟩
            · exact h
            · exact absurd h z
          rw [this]
          intro t H4 s4 ht
          refine ⟨_, rfl, sz 2, ?_⟩
          intro t2 nt2; generalize he' : upd _ _ _ = H5; obtain ⟨s5, ht2⟩ := new_facts nt2 he'; clear he'
          exact rd_tW (s5 _ _ ht) ht2 (ho3.same (s4.trans s5)).id fun H6 s6 => ⟨_, rfl, ((s3.trans s4).trans s5).trans s6, _, _, _, rfl⟩
        · have : other = due := by
            rcases e5 with ⟨h, _⟩ | ⟨_, _, h⟩
            · exact absurd z1 h
            · exact h
          rw [this]
          intro t H4 s4 ht
          refine ⟨_, rfl, sz 2, ?_⟩
          intro t2 nt2; generalize he' : upd _ _ _ = H5; obtain ⟨s5, ht2⟩ := new_facts nt2 he'; clear he'
          exact rd_tW (s5 _ _ ht) ht2 (ho3.same (s4.trans s5)).id fun H6 s6 => ⟨_, rfl, ((s3.trans s4).trans s5).trans s6, _, _, _, rfl⟩
        · rcases e5 with ⟨h, _⟩ | ⟨_, h, _⟩
          · exact absurd z1 h
          · exact absurd z2 h
      · rintro σ H3 ⟨s3, z3, z4, z5, rfl⟩
        exact ⟨F5.trans s3, z3, z4, z5, rfl⟩
    rintro _ H3 ⟨s3, z3, z4, z5, rfl⟩
    have ho3 := ho2.same s3
    obtain ⟨⟨to, hto, hoo, hto'⟩, hof⟩ := id ho3
    refine ⟨fun σ' H' => Same H2 H' ∧ σ' = [some (.ref b), some o, some (.int g), z3, z4, z5, none, none], ?_, ?_⟩
    · refine ⟨_, rfl, 0, .int g, .int 0, rfl, .inl ⟨rfl, _, _, ti _ _, oi, ti _ _, oi, fun z => absurd rfl z, fun _ z => absurd rfl z, fun _ _ => ⟨rfl, fun t H4 s4 ht => ⟨sz 1, ?_⟩⟩⟩⟩
      intro t2 nt2; generalize he' : upd _ _ _ = H5; obtain ⟨s5, ht2⟩ := new_facts nt2 he'; clear he'
      exact rd_t1 (s5 _ _ ht) ht2 fun H6 s6 => ⟨_, rfl, ((s3.trans s4).trans s5).trans s6, rfl⟩
    rintro _ H4 ⟨s4, rfl⟩
    have ho4 := ho2.same s4
    obtain ⟨⟨to, hto, hoo, hto'⟩, hof⟩ := id ho4
    refine ⟨fun σ' H' => Same H2 H' ∧ σ' = [some (.ref b), some o, some (.int g), z3, z4, z5, none, none], ?_, ?_⟩
    · refine ⟨_, rfl, o, .ref (ga K "Ratio"), to, .ref (ga K "Ratio"), _, rfl, .own _, hto, k_rat T hoo, _, rfl, ?_⟩
      refine ite2 (fun hc => ?_) (fun hc => ?_)
      · have hne : to ≠ .ref (ga K "Ratio") := fun z => by rw [z] at hc; simp at hc
        have hodd : Odd K H4 o := ⟨to, hto, hoo, by unfold numT; simp [hne, hto']⟩
        refine ⟨_, rfl, 1, o, .int 0, rfl, .inr (.inl ⟨rfl, hodd, fun t H5 s5 ht => ⟨_, rfl, sz 2, ?_⟩⟩)⟩
        intro t2 nt2; generalize he' : upd _ _ _ = H6; obtain ⟨s6, ht2⟩ := new_facts nt2 he'; clear he'
        exact rd_tW (s6 _ _ ht) ht2 (ho4.same (s5.trans s6)).id fun H7 s7 => ⟨_, rfl, ((s4.trans s5).trans s6).trans s7, rfl⟩
      · exact ⟨s4, rfl⟩
    rintro _ H5 ⟨s5, rfl⟩
    -- lists
    refine ⟨fun σ' H' => Same H2 H' ∧ ∃ z6 z7, σ' = [some (.ref b), some o, some (.int g), z3, z4, z5, z6, z7], ?_, ?_⟩
    · refine ⟨sz 3, ?_⟩
      intro wl nwl; generalize he' : upd _ _ _ = G1; obtain ⟨f1, hwl⟩ := new_facts nwl he'; clear he'
      refine ⟨wl, rfl, ⟨_, SqL.of hwl⟩, for_list (K := K) (a := wl) (xs := [V.int 2, .int 3, .int 4]) (fun i σ H6 => Same G1 H6 ∧ ∃ z6 z7, σ = [some (.ref b), some o, some (.int g), z3, z4, z5, z6, z7]) ⟨(fun _ _ e => e), none, none, rfl⟩ (fun i σ H6 _ h => SqL.of (h.1 _ _ hwl)) ?_ ?_⟩
      · rintro i x σ H6 hx ⟨s6, z6, z7, rfl⟩
        obtain ⟨way, rfl, hway⟩ : ∃ way : Int, x = .int way ∧ (way = 2 ∨ way = 3 ∨ way = 4) := by
          have := List.mem_of_getElem? hx
          simp only [List.mem_cons, List.not_mem_nil, or_false] at this
          rcases this with rfl | rfl | rfl
          · exact ⟨_, rfl, .inl rfl⟩
          · exact ⟨_, rfl, .inr (.inl rfl)⟩
          · exact ⟨_, rfl, .inr (.inr rfl)⟩
        intro d1 nd1
        generalize he' : upd H6 d1 _ = G2
        obtain ⟨f2, hd1⟩ := new_facts nd1 he'
        clear he'
        refine ⟨_, rfl, sz 2, ?_⟩
        intro a1 na1; generalize he' : upd _ _ _ = G3; obtain ⟨f3, ha1⟩ := new_facts na1 he'; clear he'
        refine ⟨sz 1, ?_⟩
        intro a2 na2; generalize he' : upd _ _ _ = G4; obtain ⟨f4, ha2⟩ := new_facts na2 he'; clear he'
        refine ⟨_, rfl, _, rfl, sz 1, ?_⟩
        intro a3 na3; generalize he' : upd _ _ _ = G5; obtain ⟨f5, ha3⟩ := new_facts na3 he'; clear he'
        refine ⟨sz 2, ?_⟩
        intro a4 na4; generalize he' : upd _ _ _ = G6; obtain ⟨f6, ha4⟩ := new_facts na4 he'; clear he'
        refine ⟨_, rfl, sz 2, ?_⟩
        intro a5 na5; generalize he' : upd _ _ _ = G7; obtain ⟨f7, ha5⟩ := new_facts na5 he'; clear he'
        refine ⟨sz 8, ?_⟩
        intro sl nsl; generalize he' : upd _ _ _ = G8; obtain ⟨f8, hsl⟩ := new_facts nsl he'; clear he'
        have F3 := ((((f4.trans f5).trans f6).trans f7).trans f8)
        have F5 := ((f6.trans f7).trans f8)
        have F8 := ((f2.trans f3).trans F3)
        have hbad : ∀ v ∈ [V.non, .int 5, .str (Str.ofString "12"), .ref d1, .ref a1, .ref a2, .ref a4, .ref a5], Bad3 K G8 v := by
          intro v hv
          simp only [List.mem_cons, List.not_mem_nil, or_false] at hv
          rcases hv with rfl | rfl | rfl | rfl | rfl | rfl | rfl | rfl
          · exact bad_ty (n := "NoneType") (by decide) (by decide) (by decide) (.base .non) (.inl rfl)
          · exact bad_ty (n := "int") (by decide) (by decide) (by decide) (.base (.int _)) (.inl rfl)
          · exact bad_ty (n := "str") (by decide) (by decide) (by decide) (.base (.str _)) (.inl rfl)
          · exact bad_ty (n := "dict") (by decide) (by decide) (by decide) (.base (.dK ((f3.trans F3) _ _ hd1))) (.inr ⟨_, rfl⟩)
          · exact bad_seq (F3 _ _ ha1) (.inl rfl) (kinds2 (k_i _) (k_o (n := "NoneType") (by decide) (by decide) (.base .non))) (by simp) rfl
          · exact bad_seq ((f5.trans F5) _ _ ha2) (.inr rfl) (kinds1 (k_o (n := "bool") (by decide) (by decide) (.base (.bl _)))) (by simp) rfl
          · exact bad_seq ((f7.trans f8) _ _ ha4) (.inl rfl) (kinds2 (k_i _) (k_o (n := "list") (by decide) (by decide) (.base (.lst (F5 _ _ ha3))))) (by simp) rfl
          · exact bad_seq (f8 _ _ ha5) (.inl rfl) (kinds2 (k_i _) (k_o (n := "str") (by decide) (by decide) (.base (.str _)))) (by simp) rfl
        refine ⟨sl, rfl, ⟨_, SqL.of hsl⟩, for_list (K := K) (a := sl) (xs := [V.non, .int 5, .str (Str.ofString "12"), .ref d1, .ref a1, .ref a2, .ref a4, .ref a5]) (fun j σ H7 => Same G8 H7 ∧ ∃ z7, σ = [some (.ref b), some o, some (.int g), z3, z4, z5, some (.int way), z7]) ⟨(fun _ _ e => e), z7, rfl⟩ (fun i σ H6 _ h => SqL.of (h.1 _ _ hsl)) ?_ ?_⟩
        · rintro j y σ H7 hy ⟨s7, y7, rfl⟩
          have hb3 := (hbad y (List.mem_of_getElem? hy)).same s7
          have nw : ∀ (t : Addr) (H8 : Hp), Same H7 H8 → H8 t = some (.tup [.str (Str.ofString "number"), y]) → Bad3 K H8 y := fun t H8 s8 _ => hb3.same s8
          refine ⟨_, rfl, _, rfl, way, y, .int 0, rfl, ?_⟩
          rcases hway with rfl | rfl | rfl
          · refine .inr (.inr (.inl ⟨rfl, hb3.1, fun t H8 s8 ht => ⟨_, rfl, sz 2, ?_⟩⟩))
            intro t2 nt2; generalize he' : upd _ _ _ = H9; obtain ⟨s9, ht2⟩ := new_facts nt2 he'; clear he'
            exact rd_tW (s9 _ _ ht) ht2 (hb3.same (s8.trans s9)).2.2 fun H10 s10 => ⟨_, rfl, ((s7.trans s8).trans s9).trans s10, _, rfl⟩
          · refine .inr (.inr (.inr (.inl ⟨rfl, hb3.2.1, fun t H8 s8 ht => ⟨_, rfl, sz 2, ?_⟩⟩)))
            intro t2 nt2; generalize he' : upd _ _ _ = H9; obtain ⟨s9, ht2⟩ := new_facts nt2 he'; clear he'
            exact rd_tW (s9 _ _ ht) ht2 (hb3.same (s8.trans s9)).2.2 fun H10 s10 => ⟨_, rfl, ((s7.trans s8).trans s9).trans s10, _, rfl⟩
          · refine .inr (.inr (.inr (.inr ⟨rfl, hb3.2.1, fun t H8 s8 ht => ⟨_, rfl, sz 2, ?_⟩⟩)))
            intro t2 nt2; generalize he' : upd _ _ _ = H9; obtain ⟨s9, ht2⟩ := new_facts nt2 he'; clear he'
            exact rd_tW (s9 _ _ ht) ht2 (hb3.same (s8.trans s9)).2.2 fun H10 s10 => ⟨_, rfl, ((s7.trans s8).trans s9).trans s10, _, rfl⟩
        · rintro σ H7 ⟨s7, y7, rfl⟩
          exact ⟨(s6.trans F8).trans s7, _, _, rfl⟩
      · rintro σ H6 ⟨s6, z6, z7, rfl⟩
        exact ⟨(s5.trans f1).trans s6, z6, z7, rfl⟩
    rintro _ H6 ⟨s6, z6, z7, rfl⟩
    refine ⟨sz 0, ?_⟩
    intro e1 ne1; generalize he' : upd _ _ _ = H7; obtain ⟨s7, he1⟩ := new_facts ne1 he'; clear he'
    refine ⟨3, .ref e1, .int 0, rfl, .inr (.inr (.inr (.inl ⟨rfl, .inr ⟨e1, _, [], [], rfl, he1, .inl rfl, ⟨rfl, fun i x h => by simp at h⟩, by decide, .inl (by decide)⟩, fun t H8 s8 ht => ⟨sz 0, ?_⟩⟩)))⟩
    intro e2 ne2; generalize he' : upd _ _ _ = H9; obtain ⟨s9, he2⟩ := new_facts ne2 he'; clear he'
    refine ⟨sz 2, ?_⟩
    intro t2 nt2; generalize he' : upd _ _ _ = H10; obtain ⟨s10, ht2⟩ := new_facts nt2 he'; clear he'
    refine rd_tW ((s9.trans s10) _ _ ht) ht2 (.inl (.inr ⟨e1, e2, [], [], rfl, rfl, ((s8.trans s9).trans s10) _ _ he1, s10 _ _ he2, .nil⟩)) fun H11 s11 => ⟨_, rfl, ?_⟩
    have S11 := ((((s6.trans s7).trans s8).trans s9).trans s10).trans s11
    refine ⟨sz 0, ?_⟩
    intro e3 ne3; generalize he' : upd _ _ _ = H12; obtain ⟨s12, he3⟩ := new_facts ne3 he'; clear he'
    refine ⟨4, .ref e3, .int 0, rfl, .inr (.inr (.inr (.inr ⟨rfl, .inr ⟨e3, _, [], [], rfl, he3, .inr rfl, ⟨rfl, fun i x h => by simp at h⟩, by decide, .inl (by decide)⟩, fun t' H13 s13 ht' => ⟨sz 0, ?_⟩⟩)))⟩
    intro e4 ne4; generalize he' : upd _ _ _ = H14; obtain ⟨s14, he4⟩ := new_facts ne4 he'; clear he'
    refine ⟨sz 2, ?_⟩
    intro t4 nt4; generalize he' : upd _ _ _ = H15; obtain ⟨s15, ht4⟩ := new_facts nt4 he'; clear he'
    refine rd_tW ((s14.trans s15) _ _ ht') ht4 (.inr ⟨e3, e4, [], [], rfl, rfl, SqT.of (((s13.trans s14).trans s15) _ _ he3), SqT.of (s15 _ _ he4), .nil⟩) fun H16 s16 => ?_
    obtain ⟨k1, k2⟩ := K1 ((((S11.trans s12).trans s13).trans s14).trans (s15.trans s16))
    exact k _ k1 k2
theorem ok__law_odd_right (T : TX K mg) : FnR P w K mg base (L2.CX P w) 10 (ga K "_law_odd_right") SpOdd := (okd__law_odd_right T).r (fun _ _ _ _ _ _ us hl => match us, hl with | [_], _ => rfl)
end
end Lw
set_option Elab.async false
set_option linter.all false
set_option maxRecDepth 100000
set_option maxHeartbeats 4000000
/-! What has grown. -/
namespace Lw
open PySem PySem.Spec PyProof.Rows L2 He Wl SX
theorem pe_callR0 {X : Cx} {CX : CXT} {k : Nat} {f : Addr} {sp : Sp} {E : XK} {x : Str} {p pos : Pos} (F : FnR X.prog X.w X.K X.mg X.base CX k f sp) (hr : Room k X.A) (hk : PySem.W.keepIn X.K (.ref f) = true) (hg : Gl X x) (hm : X.mg x = some (.ref f)) (hx : Passes CX X E)
    (hdb : (x == ("__debug__" : Str)) = false := by decide) : PE X (.Call (.Name x p) [] [] pos) (tCallR sp E tNil) := by
  refine ⟨fun pins s σ H Q I h => ?_⟩
  refine wpAny_Call_Name_kw (ld_glob I hg hm ?_ hdb)
  exact PySem.W.callWith_K0 I.kIn hk (wpAny_call (run_fnR (us := []) (vs := []) F hr hx I .nil h))
section
variable {P : Program} {w : World} {K : PySem.W.Frag} {mg : Str → Option Value} {base : Heap}
structure SpGrown (vs : List V) (H : Hp) (Q : VK) (E : XK) : Prop where
  h : vs = [] ∧ ∀ H', Same H H' → Q (.bl true) H'
theorem one_odd {H : Hp} {l : Addr} (h : H l = some (.lst [.str (Str.ofString "1")])) : Bad3 K H (.ref l) ∧ Odd K H (.ref l) ∧ ∃ t, TyY K (ga K "Ratio") (.ref l) H t ∧ OkT (ga K "Ratio") t ∧ t ≠ .type "int" ∧ t ≠ .type "str" :=
  ⟨bad_seq h (.inl rfl) (kinds1 (k_o (n := "str") (by decide) (by decide) (.base (.str _)))) (by simp) rfl, k_o (n := "list") (by decide) (by decide) (.base (.lst h)), .type "list", .inl (.base (.lst h)), .inr ⟨"list", by decide, rfl⟩, (fun z => nomatch z), fun z => nomatch z⟩
theorem okd__law_grown (T : TX K mg) : FnD P w K mg base 10 (ga K "_law_grown") [] SpGrown d__law_grown.name d__law_grown.qual d__law_grown.params d__law_grown.body d__law_grown.scope := by
  refine fnD_of (T.d 39) sc__law_grown (fun vs H Q E h => ?_) (fun cdv A outer s H vs Q E hr h => ?_)
  · obtain ⟨rfl, _⟩ := h; rfl
  · obtain ⟨rfl, k⟩ := h
    refine ⟨_, pss_cons (ps_for (passes_of rfl) rfl (pi_range1 (by rfl) (T.f 43) (pa_cons pe_int pa_nil)) (pg_name (i := 0) sc__law_grown.nd rfl (.inl rfl)) (pss_cons (ps_set (i := 1) sc__law_grown.nd rfl (.inl rfl) (pe_lst (pa_cons pe_str pa_nil))) (C8.pss_cut (ps_set (i := 2) sc__law_grown.nd rfl (.inl rfl) (pe_callR (ok__law_refused T) (hr.mono (by decide)) (T.kg 37) (by rfl) (T.g 22) passL (pa_cons (pv 0) (pa_cons (pv 1) (pa_cons pe_int pa_nil))))) (pss_cons (ps_expr (pe_bm PySem.F.plainAttrs_list PySem.F.slot_list_append PySem.F.type_list_append mt_append (pv 1) (pa_cons pe_non pa_nil))) (pss_one (ps_if (pt_cmpR (op_neTG (mon_w _) eqG_w (hr.mono (by decide))) (pv 2) (pe_tup (pa_cons pe_str (pa_cons (pe_lst (pa_cons pe_str (pa_cons pe_non pa_nil))) pa_nil))) (nomark _)) (pss_one (ps_ret pe_bl)) (pss_nil))))))) (pss_cons (ps_set (i := 1) sc__law_grown.nd rfl (.inl rfl) (pe_lst (pa_cons pe_str pa_nil))) (pss_cons (ps_set (i := 2) sc__law_grown.nd rfl (.inl rfl) (pe_callR (ok__law_found T) (hr.mono (by decide)) (T.kg 36) (by rfl) (T.g 21) passL (pa_cons (pv 1) pa_nil))) (pss_cons (ps_expr (pe_bm PySem.F.plainAttrs_list PySem.F.slot_list_append PySem.F.type_list_append mt_append (pv 1) (pa_cons pe_non pa_nil))) (pss_one (ps_ret (pe_cmpR (op_eqTG (mon_w _) eqG_w (hr.mono (by decide))) (pv 2) (pe_tup (pa_cons pe_str (pa_cons (pe_lst (pa_cons pe_str (pa_cons pe_non pa_nil))) pa_nil))) (nomark _))))))), ?_⟩
    refine ⟨5, rfl, by decide, by decide, for_it walk_range (fun i σ H1 => Same H H1 ∧ ∃ z1 z2 z3, σ = [z1, z2, z3]) ⟨(fun _ _ e => e), _, _, _, rfl⟩ (fun _ _ _ _ _ => trivial) ?_ ?_⟩
    · rintro i x σ _ H1 hi ⟨s1, z1, z2, z3, rfl⟩ ⟨rfl, rfl⟩
      refine ⟨sz 1, ?_⟩
      intro l nl; generalize he' : upd _ _ _ = H2; obtain ⟨s2, hl⟩ := new_facts nl he'; clear he'
      obtain ⟨hb3, hodd, tl, htl, hol, hnl, _⟩ := one_odd (K := K) hl
      refine ⟨fun σ' H3 => ∃ t, σ' = [some (.int ((0 : Int) + i)), some (.ref l), some (.ref t)] ∧ Same H2 H3 ∧ H3 t = some (.tup [.str (Str.ofString "number"), .ref l]), ?_, ?_⟩
      · refine ⟨_, rfl, _, rfl, (0 : Int) + i, .ref l, .int 1, rfl, ?_⟩
        have hway : (0 : Int) + i = 0 ∨ (0 : Int) + i = 1 ∨ (0 : Int) + i = 2 ∨ (0 : Int) + i = 3 ∨ (0 : Int) + i = 4 := by
          have : i < 5 := hi
          omega
        have fin : ∀ t H3, Same H2 H3 → H3 t = some (.tup [.str (Str.ofString "number"), .ref l]) → ∃ t', [some (V.int ((0 : Int) + i)), some (.ref l), some (.ref t)] = [some (V.int ((0 : Int) + i)), some (.ref l), some (.ref t')] ∧ Same H2 H3 ∧ H3 t' = some (.tup [.str (Str.ofString "number"), .ref l]) := fun t H3 s3 ht => ⟨t, rfl, s3, ht⟩
        rcases hway with e | e | e | e | e
        · exact .inl ⟨e, tl, _, htl, hol, ti _ _, oi, fun _ t H3 s3 ht => fin t H3 s3 ht, fun z => absurd z hnl, fun z => absurd z hnl⟩
        · exact .inr (.inl ⟨e, hodd, fun t H3 s3 ht => fin t H3 s3 ht⟩)
        · exact .inr (.inr (.inl ⟨e, hb3.1, fun t H3 s3 ht => fin t H3 s3 ht⟩))
        · exact .inr (.inr (.inr (.inl ⟨e, hb3.2.1, fun t H3 s3 ht => fin t H3 s3 ht⟩)))
        · exact .inr (.inr (.inr (.inr ⟨e, hb3.2.1, fun t H3 s3 ht => fin t H3 s3 ht⟩)))
      · rintro _ H3 ⟨t, rfl, s3, ht⟩
        have hl3 := s3 _ _ hl
        refine ⟨_, rfl, .inl ⟨rfl, _, SqL.of hl3⟩, l, _, _, rfl, rfl, hl3, by decide, ?_⟩
        generalize he' : upd H3 l _ = H4
        have sb4 : SB l H3 H4 := by rw [← he']; exact SB.upd
        have hl4 : H4 l = some (.lst [.str (Str.ofString "1"), .non]) := by rw [← he']; exact upd_same
        have ht4 : H4 t = some (.tup [.str (Str.ofString "number"), .ref l]) := sb4 _ _ ht fun z => by rw [z, hl3] at ht; cases ht
        have s4 : Same H1 H4 := same_sb (s2.trans s3) sb4 nl
        clear he'
        refine ⟨_, rfl, sz 2, ?_⟩
        intro l2 nl2; generalize he' : upd _ _ _ = H5; obtain ⟨s5, hl2⟩ := new_facts nl2 he'; clear he'
        refine ⟨sz 2, ?_⟩
        intro t2 nt2; generalize he' : upd _ _ _ = H6; obtain ⟨s6, ht2⟩ := new_facts nt2 he'; clear he'
        refine rd_tW ((s5.trans s6) _ _ ht4) ht2 (.inl (.inr ⟨l, l2, _, _, rfl, rfl, (s5.trans s6) _ _ hl4, s6 _ _ hl2, .cons ⟨rfl, .inl rfl⟩ (.cons ⟨rfl, .inl rfl⟩ .nil)⟩)) fun H7 s7 => ?_
        exact ⟨_, rfl, (((s1.trans s4).trans s5).trans s6).trans s7, _, _, _, rfl⟩
    · rintro σ H1 ⟨s1, z1, z2, z3, rfl⟩
      refine ⟨sz 1, ?_⟩
      intro l nl; generalize he' : upd _ _ _ = H2; obtain ⟨s2, hl⟩ := new_facts nl he'; clear he'
      obtain ⟨hb3, hodd, tl, htl, hol, _, hnl⟩ := one_odd (K := K) hl
      refine ⟨_, rfl, .ref l, rfl, .inl ⟨tl, htl, hol, hnl, fun t H3 s3 ht => ?_⟩⟩
      have hl3 := s3 _ _ hl
      refine ⟨_, rfl, .inl ⟨rfl, _, SqL.of hl3⟩, l, _, _, rfl, rfl, hl3, by decide, ?_⟩
      generalize he' : upd H3 l _ = H4
      have sb4 : SB l H3 H4 := by rw [← he']; exact SB.upd
      have hl4 : H4 l = some (.lst [.str (Str.ofString "1"), .non]) := by rw [← he']; exact upd_same
      have ht4 : H4 t = some (.tup [.str (Str.ofString "text"), .ref l]) := sb4 _ _ ht fun z => by rw [z, hl3] at ht; cases ht
      have s4 : Same H1 H4 := same_sb (s2.trans s3) sb4 nl
      clear he'
      refine ⟨_, rfl, sz 2, ?_⟩
      intro l2 nl2; generalize he' : upd _ _ _ = H5; obtain ⟨s5, hl2⟩ := new_facts nl2 he'; clear he'
      refine ⟨sz 2, ?_⟩
      intro t2 nt2; generalize he' : upd _ _ _ = H6; obtain ⟨s6, ht2⟩ := new_facts nt2 he'; clear he'
      refine rd_tW ((s5.trans s6) _ _ ht4) ht2 (.inl (.inr ⟨l, l2, _, _, rfl, rfl, (s5.trans s6) _ _ hl4, s6 _ _ hl2, .cons ⟨rfl, .inl rfl⟩ (.cons ⟨rfl, .inl rfl⟩ .nil)⟩)) fun H7 s7 => ?_
      exact k H7 ((((s1.trans s4).trans s5).trans s6).trans s7)
theorem ok__law_grown (T : TX K mg) : FnR P w K mg base (L2.CX P w) 10 (ga K "_law_grown") SpGrown := (okd__law_grown T).r (fun _ _ _ _ _ _ us hl => match us, hl with | [], _ => rfl)
end
end Lw
set_option Elab.async false
set_option linter.all false
set_option maxRecDepth 100000
set_option maxHeartbeats 4000000
/-! The law. -/
namespace Lw
open PySem PySem.Spec PyProof.Rows L2 He Wl SX
section
variable {K : PySem.W.Frag} {mg : Str → Option Value}
theorem nf_ok (T : TX K mg) {t : Value} (h : OkT (ga K "Ratio") t) : PySem.W.notFirst K (ga K "Ratio") t = true := by
  rcases h with rfl | ⟨n, hn, rfl⟩
  · unfold PySem.W.notFirst; simp
  · unfold PySem.W.notFirst; rw [((x_r T).kty n hn).2]; simp
/-- a Ratio == any value -/
def rEqR (K : PySem.W.Frag) (neg : Bool) : R2 := fun x y H Q => ∃ a p q, x = .ref a ∧ RatAt (ga K "Ratio") H a p q ∧ ((Odd K H y ∧ Q (.bl neg) H) ∨ ∃ r s, NumAt (ga K "Ratio") H y r s ∧ ∀ H', Same H H' → Q (.bl (Bool.xor neg (decide (p = r ∧ q = s)))) H')
end
section
variable {X : Cx}
theorem op_eqR (T : TX X.K X.mg) (hr : Room 6 X.A) (hx : Passes (L2.CX X.prog X.w) X E0) : OpR X (compareOp .Eq) (rEqR X.K false) := by
  refine OpR.imp (op_eqSl (x_r T).eq.at_ (x_r T).eq.fn (ok_Ratio___eq__ T) hr hx) fun x y H Q h => ?_
  obtain ⟨a, p, q, rfl, ⟨dx, ha⟩, h⟩ := h
  rcases h with ⟨⟨t, h1, h2, h3⟩, k⟩ | ⟨r, s, hn, k⟩
  · exact ⟨a, dx, _, t, rfl, ha, h1, nf_ok T h2, a, y, p, q, rfl, ⟨dx, ha⟩, .inl ⟨t, h1, h2, h3, k⟩⟩
  · obtain ⟨t, h1, h2, h3⟩ := numT_of (R := 0) hn
    exact ⟨a, dx, _, t, rfl, ha, h1, nf_ok T h2, a, y, p, q, rfl, ⟨dx, ha⟩, .inr ⟨r, s, hn, fun H' s' => by have z := k H' s'; rw [Bool.false_xor] at z; exact z⟩⟩
theorem op_neR (T : TX X.K X.mg) (hr : Room (6 + 1) X.A) (hx : Passes (L2.CX X.prog X.w) X E0) : OpR X (compareOp .NotEq) (rEqR X.K true) := by
  refine OpR.imp (op_neSl (x_r T).ne (x_r T).isi.cm (x_r T).eq.at_ (x_r T).eq.fn (ok_Ratio___eq__ T) hr hx) fun x y H Q h => ?_
  obtain ⟨a, p, q, rfl, ⟨dx, ha⟩, h⟩ := h
  rcases h with ⟨⟨t, h1, h2, h3⟩, k⟩ | ⟨r, s, hn, k⟩
  · exact ⟨a, dx, _, t, rfl, ha, h1, nf_ok T h2, a, y, p, q, rfl, ⟨dx, ha⟩, .inl ⟨t, h1, h2, h3, false, rfl, k⟩⟩
  · obtain ⟨t, h1, h2, h3⟩ := numT_of (R := 0) hn
    exact ⟨a, dx, _, t, rfl, ha, h1, nf_ok T h2, a, y, p, q, rfl, ⟨dx, ha⟩, .inr ⟨r, s, hn, fun H' s' => ⟨_, rfl, by have z := k H' s'; rw [Bool.true_xor] at z; exact z⟩⟩⟩
end
theorem pe_cmethK {X : Cx} {k : Nat} {C g p : Addr} {mc : Value} {m : Str} {ks : List Str} {sp : Sp} {E : XK} {o : Expr} {ta : TE} {tk : TA} {apos pos : Pos} {kws : List Keyword} {pl : Sem Bool} (he : PE X o ta) (r : ClX.CRead X.K C mc) (c : ClX.CMet X.K C mc m p g) (F : FnKw X.prog X.w X.K X.mg X.base k g 1 ks sp) (hr : Room k X.A) (hx : Passes (L2.CX X.prog X.w) X E) (hkw : PK X kws tk)
    (hall : (backToKw pos (keywordEach kws X.env)).all (·.1.isSome) = true := by rfl) (hks : (backToKw pos (keywordEach kws X.env)).filterMap (·.1) = ks := by rfl)
    (hpl : ((backTo pos (starEach [] X.env)).any (·.1) || (backToKw pos (keywordEach kws X.env)).any (·.1.isNone)) = false := by rfl)
    (ht : eval (.Call (.Attribute o m apos) [] kws pos) X.env = (do
      let ov ← eval o X.env
      standAt apos.atName
      let (f, first) ← holding [ov] (getMethod ov m pl)
      callWith pos f first (backTo pos (starEach [] X.env)) (backToKw pos (keywordEach kws X.env))) := by rfl) :
    PE X (.Call (.Attribute o m apos) [] kws pos) (ClX.tCMeth C sp E ta tk) := by
  refine ⟨fun pins s σ H Q I h => ?_⟩
  refine PySem.W.methodCall_KW (pl := pl) (thn (he.run pins s σ H _ I h) fun u s1 ⟨x, H1, I1, rx, ex, q⟩ => ?_) ht
  subst ex
  obtain rfl : u = Value.ref C := rx
  refine ClX.getmethcm_ok I1 r c fun s2 I2 => ?_
  refine PySem.W.callWith_of hpl (PySem.W.keeps_M c.fi) (evalArgs_kw2_nil hall (thn (hkw.run pos _ s2 σ H1 _ I2 q) fun ws s3 ⟨zs, H2, I3, rz, q2⟩ => ⟨⟨ClX.pin_at I3, I3.kIn⟩, ?_⟩))
  rw [hks]
  suffices z : wpAny (model X.prog X.w) X.A (call (.ref s1.heap.objs.size) [] (ks.zip ws)) (EP X ((s1.heap.objs.size, PySem.W.methodObj (.ref g) (.ref C)) :: pins) σ Q) X.xe s3 from thn z fun _ _ y => ClX.unpinE y
  refine wpAny_call (PySem.W.method_call (ClX.pin_at I3) (codeAny_mono (F X.A X.stack s3 H2 [.ref C] ws (.ref C :: zs) Q E rfl hr I3.env0 (.cons rfl rz) q2) fun r s' hq => ?_))
  cases r with
  | error e => exact hx _ σ H2 s3 e s' I3 hq
  | ok fl =>
    cases fl with
    | ret u => exact I3.after hq
    | next => exact False.elim hq
    | brk => exact False.elim hq
    | cont => exact False.elim hq
section
variable {P : Program} {w : World} {K : PySem.W.Frag} {mg : Str → Option Value} {base : Heap}
theorem okk_Ratio_read (T : TX K mg) : FnKw P w K mg base 6 (recFn K (ma K (ga K "Ratio") "read") "classmethod") 1 ["text"] (spRead K) := (okd_Ratio_read T).kw 1 ["text"] rfl (fun _ _ _ _ _ _ us ws h1 h2 => match us, ws, h1, h2 with | [_], [_], _, _ => rfl)
def spLaw (K : PySem.W.Frag) : Sp := fun vs H Q _ => ∃ (a : Addr) (ns : List Int), vs = [.ref a] ∧ SqL K H a (ns.map V.int) ∧ ∀ H', Q (.bl true) H'
theorem intL_len101 {x : Int} (h : Bd 101 x) : (intL x).length ≤ 32 := by
  have z := TL.numL_len (n := x.natAbs) (k := 31) (by decide) (Nat.lt_of_lt_of_le h (by decide +kernel))
  unfold intL
  split
  · rw [List.length_cons]; omega
  · omega
theorem ratL_len {p : Pr} (h : Fine p) : (ratL p).length ≤ 100 := by
  have l1 := intL_len101 h.2.1
  have l2 := intL_len101 h.2.2
  unfold ratL
  split
  · omega
  · rw [List.length_append, List.length_cons]; omega
/-- two pairs alike -/
theorem rd_tP {t1 t2 : Addr} {H : Hp} {p : Pr} {C : Prop} (h1 : H t1 = some (tupP p)) (h2 : H t2 = some (tupP p)) (k : C) : DTup K (DW K) (.ref t1) (.ref t2) H ∧ C :=
  ⟨⟨t1, t2, _, _, rfl, rfl, SqT.of h1, SqT.of h2, .cons (.inl (.inl ⟨rfl, .inl rfl⟩)) (.cons (.inl (.inl ⟨rfl, .inl rfl⟩)) .nil)⟩, k⟩
theorem flat_id {v : V} {H : Hp} (h : flatV v = true) : DW K v v H := .inl (.inl ⟨rfl, .inl h⟩)
theorem okd_law (T : TX K mg) : FnD P w K mg base 12 (ga K "law") ["_law_script"] (spLaw K) d_law.name d_law.qual d_law.params d_law.body d_law.scope := by
  refine fnD_of (T.d 40) sc_law (fun vs H Q E h => ?_) (fun cdv A outer s H vs Q E hr h => ?_)
  · obtain ⟨a, ns, rfl, _⟩ := h; rfl
  · obtain ⟨a, ns, rfl, ha, k⟩ := h
    refine ⟨_, pss_cons (ps_for (passes_of rfl) rfl (pi_range1 (by rfl) (T.f 43) (pa_cons (pe_callB (call_max2 rfl) (by rfl) (T.f 40) (by decide +kernel) (pa_cons pe_int (pa_cons (pe_callB (call_min2 rfl) (by rfl) (T.f 41) (by decide +kernel) (pa_cons pe_int (pa_cons (pe_callB call_len_seq (by rfl) (T.f 38) (by decide +kernel) (pa_cons (pv 0) pa_nil)) pa_nil))) pa_nil))) pa_nil)) (pg_name (i := 1) sc_law.nd rfl (.inl rfl)) (pss_cons (ps_set (i := 2) sc_law.nd rfl (.inl rfl) (pe_callR (ok__law_bag T) (hr.mono (by decide)) (T.kg 28) (by rfl) (T.g 13) passL (pa_cons (pe_callR (ok__law_cell T) (hr.mono (by decide)) (T.kg 27) (by rfl) (T.g 12) passL (pa_cons (pv 0) (pa_cons (pv 1) pa_nil))) pa_nil))) (pss_cons (ps_for (passes_of rfl) rfl (pi_range1 (by rfl) (T.f 43) (pa_cons pe_int pa_nil)) (pg_name (i := 3) sc_law.nd rfl (.inl rfl)) (pss_cons (ps_set (i := 4) sc_law.nd rfl (.inl rfl) (pe_callR (ok__law_drawn T) (hr.mono (by decide)) (T.kg 34) (by rfl) (T.g 19) passL (pa_cons (pv 2) pa_nil))) (pss_cons (ps_set (i := 5) sc_law.nd rfl (.inl rfl) (SlX.pe_methSl0 (pe_ratio2 T (hr.mono (by decide)) (by rfl) (T.g 30) passL (pa_cons (pe_ix ix_seq (pv 4) pe_int (fun _ _ => rfl)) (pa_cons (pe_ix ix_seq (pv 4) pe_int (fun _ _ => rfl)) pa_nil))) (x_r T).cl (x_c T).tx (ok_Ratio_text T) (hr.mono (by decide)) passL)) (pss_cons (ps_if (PW.pt (pw_or (pt_cmpR op_ne (pv 5) (pe_callR (ok__law_text T) (hr.mono (by decide)) (T.kg 31) (by rfl) (T.g 16) passL (pa_cons (pv 4) pa_nil)) (nomark _)) (pw_or1 (pt_cmpR (op_neTG (mon_w _) eqG_w (hr.mono (by decide))) (pe_callR (ok__law_found T) (hr.mono (by decide)) (T.kg 36) (by rfl) (T.g 21) passL (pa_cons (pv 5) pa_nil)) (pv 4) (nomark _))))) (pss_one (ps_ret pe_bl)) (pss_nil)) (pss_cons (ps_set (i := 6) sc_law.nd rfl (.inl rfl) (pe_callR (ok__law_spoilt T) (hr.mono (by decide)) (T.kg 35) (by rfl) (T.g 20) passL (pa_cons (pv 2) (pa_cons (pv 4) pa_nil)))) (pss_cons (ps_set (i := 7) sc_law.nd rfl (.inl rfl) (pe_callR (ok__law_read T) (hr.mono (by decide)) (T.kg 33) (by rfl) (T.g 18) passL (pa_cons (pv 6) pa_nil))) (pss_one (ps_if (pt_cmpR (op_neTG (mon_w _) eqG_w (hr.mono (by decide))) (pe_callR (ok__law_found T) (hr.mono (by decide)) (T.kg 36) (by rfl) (T.g 21) passL (pa_cons (pv 6) pa_nil)) (pe_ifExp (pt_cmpR op_notN (pv 7) pe_non (nomark _)) (pv 7) (pe_tup (pa_cons pe_str (pa_cons (pv 6) pa_nil)))) (nomark _)) (pss_one (ps_ret pe_bl)) (pss_nil))))))))) (pss_cons (ps_set (i := 8) sc_law.nd rfl (.inl rfl) (pe_ix ix_seq (pe_lst (pa_cons pe_non (pa_cons pe_int (pa_cons (pe_ratio2 T (hr.mono (by decide)) (by rfl) (T.g 30) passL (pa_cons pe_int (pa_cons pe_int pa_nil))) (pa_cons (pe_lst (pa_cons pe_str pa_nil)) (pa_cons (pe_tup (pa_cons pe_str pa_nil)) (pa_cons pe_dnewK (pa_cons pe_bl pa_nil)))))))) (pe_callR (ok__law_take T) (hr.mono (by decide)) (T.kg 29) (by rfl) (T.g 14) passL (pa_cons (pv 2) (pa_cons pe_int pa_nil))) (fun _ _ => rfl))) (pss_one (ps_if (PW.pt (pw_or (pt_cmpR (op_neTG (mon_w _) eqG_w (hr.mono (by decide))) (pe_callR (ok__law_found T) (hr.mono (by decide)) (T.kg 36) (by rfl) (T.g 21) passL (pa_cons (pv 8) pa_nil)) (pe_tup (pa_cons pe_str (pa_cons (pv 8) pa_nil))) (nomark _)) (pw_or1 (pt_not (pt_val (pe_callR (ok__law_odd_right T) (hr.mono (by decide)) (T.kg 38) (by rfl) (T.g 23) passL (pa_cons (pv 2) pa_nil))))))) (pss_one (ps_ret pe_bl)) (pss_nil))))))) (pss_cons (ps_if (PW.pt (pw_or (pt_not (pt_val (pe_callR0 (ok__law_grown T) (hr.mono (by decide)) (T.kg 39) (by rfl) (T.g 24) passL))) (pw_or1 (pt_cmpR (op_neR T (hr.mono (by decide)) passL) (pe_cmethK (pe_glob (v := .ref (ga K "Ratio")) (by rfl) (T.g 30) rfl) (x_c T).rd (x_c T).cm (okk_Ratio_read T) (hr.mono (by decide)) passL (pk_cons pe_str pk_nil)) (pe_ratio2 T (hr.mono (by decide)) (by rfl) (T.g 30) passL (pa_cons (pe_un un_neg pe_int) (pa_cons pe_int pa_nil))) (nomark _))))) (pss_one (ps_ret pe_bl)) (pss_nil)) (pss_one (ps_ret (pe_and (pe_cmpR (op_eqTG (mon_w _) eqG_w (hr.mono (by decide))) (pe_callR (ok__law_found T) (hr.mono (by decide)) (T.kg 36) (by rfl) (T.g 21) passL (pa_cons (pe_op op_add_str pe_str (pe_op op_mulTxt pe_str pe_int)) pa_nil)) (pe_tup (pa_cons pe_int (pa_cons (pe_callTy call_int_str (by rfl) (T.f 36) (by decide +kernel) (pa_cons (pe_op op_mulTxt pe_str pe_int) pa_nil)) pa_nil))) (nomark _)) (pe_one (pe_cmpR (op_eqTG (mon_w _) eqG_w (hr.mono (by decide))) (pe_callR (ok__law_found T) (hr.mono (by decide)) (T.kg 36) (by rfl) (T.g 21) passL (pa_cons pe_str pa_nil)) (pe_tup (pa_cons pe_str (pa_cons pe_str pa_nil))) (nomark _))))))), ?_⟩
    refine ⟨_, rfl, a, _, rfl, .inl ha, _, _, rfl, _, _, rfl, ?_⟩
    generalize hN : (if (if ((ns.map V.int).length : Int) < 10 then ((ns.map V.int).length : Int) else 10) > 2 then (if ((ns.map V.int).length : Int) < 10 then ((ns.map V.int).length : Int) else 10) else 2) = N
    have hN0 : N ≤ 10 := by rw [← hN]; split <;> split <;> omega
    have hN1 : 0 ≤ N := by rw [← hN]; split <;> split <;> omega
    refine ⟨N, rfl, by omega, by omega, ?_⟩
    refine for_it walk_range (fun i σ H1 => Same H H1 ∧ ∃ z1 z2 z3 z4 z5 z6 z7 z8, σ = [some (.ref a), z1, z2, z3, z4, z5, z6, z7, z8]) ⟨fun _ _ e => e, _, _, _, _, _, _, _, _, rfl⟩ (fun _ _ _ _ _ => trivial) ?_ ?_
    · rintro i x σ _ H1 hi ⟨s1, z1, z2, z3, z4, z5, z6, z7, z8, rfl⟩ ⟨rfl, rfl⟩
      have ha1 : SqL K H1 a (ns.map V.int) := SqL.ext ha s1
      refine ⟨_, rfl, _, rfl, a, ns, i, by simp, ha1, by omega, fun c => ?_⟩
      refine ⟨c, rfl, fun b H2 s2 nb hb2 => ?_⟩
      refine ⟨4, rfl, by decide, by decide, for_it walk_range (fun j σ H5 => Same H1 H5 ∧ Bag H5 b (20 * (j : Int)) ∧ ∃ z3 z4 z5 z6 z7, σ = [some (.ref a), some (.int (0 + (i : Int))), some (.ref b), z3, z4, z5, z6, z7, z8]) ⟨s2, hb2.mono (by omega), _, _, _, _, _, rfl⟩ (fun _ _ _ _ _ => trivial) ?_ ?_⟩
      · rintro j x σ _ H5 hj ⟨s5, hb5, y3, y4, y5, y6, y7, rfl⟩ ⟨rfl, rfl⟩
        have hj4 : j < 4 := hj
        refine ⟨_, rfl, b, _, rfl, hb5, by omega, fun tx p H6 fp s6 hb6 hx => ?_⟩
        have s16 := same_sb s5 s6 nb
        refine ⟨_, rfl, rd_ixT hx rfl ⟨_, rfl, rd_ixT hx rfl (rd_ratio fp.1.ne (fp.2.2.mono (by decide)) fun c1 H7 s7 hc1 => ?_)⟩⟩
        rw [nrm_of_low fp.1] at hc1
        obtain ⟨dc, hdc⟩ := id hc1
        have b1 := fp.2.1.mono (n := 400) (by decide)
        have b2 := fp.2.2.mono (n := 400) (by decide)
        refine ⟨c1, dc, _, rfl, hdc, c1, _, _, rfl, hc1, fp.2.1.mono (by decide), fp.2.2.mono (by decide), Nat.le_trans (intL_len b1) (by decide), Nat.le_trans (intL_len b2) (by decide), ?_⟩
        refine ⟨_, rfl, _, rfl, tx, p, rfl, s7 _ _ hx, b1, b2, rd_neS rfl rfl ⟨_, rfl, ?_⟩⟩
        refine ⟨_, rfl, _, rfl, .inr ⟨ratL p, rfl, Nat.le_trans (ratL_len fp) (by decide), fun z => ?_, fun _ p' g => ?_⟩⟩
        · rcases z with z | z
          · have := ratL_len fp; omega
          · exact absurd ⟨fp.1, rfl⟩ (z p)
        have ep : p' = p := g.one ⟨fp.1, rfl⟩
        subst ep
        intro t1 H8 s8 ht1
        refine ⟨_, rfl, rd_tP ht1 ((s7.trans s8) _ _ hx) fun H9 s9 => ⟨_, rfl, ?_⟩⟩
        have S9 := (s7.trans s8).trans s9
        refine ⟨_, rfl, _, rfl, b, _, tx, p', rfl, hb6.same S9, by omega, S9 _ _ hx, fp, fun y H10 hy s10 hb10 => ?_⟩
        have s110 := same_sb (s16.trans S9) s10 nb
        have ey : S (TL.tl y) = y := TL.mk_tl y
        have hyl : (TL.tl y).length ≤ 2000 := by rw [← TL.len_tl]; exact hy
        generalize TL.tl y = l at ey hyl
        subst ey
        by_cases hg : l.length ≤ 100 ∧ ∃ p, Good l p
        · obtain ⟨hl, q, gq⟩ := hg
          refine ⟨_, rfl, l, rfl, by omega, fun z => ?_, fun _ q' g' => ?_⟩
          · rcases z with z | z
            · omega
            · exact absurd gq (z q)
          intro td H11 s11 htd
          refine ⟨_, rfl, _, rfl, .inr ⟨l, rfl, by omega, fun z => ?_, fun _ q2 g2 => ?_⟩⟩
          · rcases z with z | z
            · omega
            · exact absurd gq (z q)
          have e2 : q2 = q' := g2.one g'
          subst e2
          intro t2 H12 s12 ht2
          refine ⟨_, rfl, rfl, _, rfl, iteT (by simp) ⟨_, rfl, ?_⟩⟩
          refine rd_tP ht2 (s12 _ _ htd) fun H13 s13 => ⟨_, rfl, ?_⟩
          exact ⟨((s110.trans s11).trans s12).trans s13, (hb10.same ((s11.trans s12).trans s13)).mono (by push_cast; omega), _, _, _, _, _, rfl⟩
        · have bad : 100 < l.length ∨ ∀ p, ¬ Good l p := by
            by_cases h : l.length ≤ 100
            · exact .inr fun p g => hg ⟨h, p, g⟩
            · exact .inl (by omega)
          have nogood : ∀ {C : Prop}, l.length ≤ 100 → ∀ p, Good l p → C := fun h p g => absurd ⟨h, p, g⟩ hg
          refine ⟨_, rfl, l, rfl, by omega, fun _ H11 s11 => ?_, fun h p g => nogood h p g⟩
          refine ⟨_, rfl, _, rfl, .inr ⟨l, rfl, by omega, fun _ t2 H12 s12 ht2 => ?_, fun h p g => nogood h p g⟩⟩
          refine ⟨_, rfl, rfl, _, rfl, ?_⟩
          refine ⟨_, rfl, sz 2, ?_⟩
          intro t3 nt3; generalize he' : upd _ _ _ = H13; obtain ⟨s13, ht3⟩ := new_facts nt3 he'; clear he'
          refine rd_tW (s13 _ _ ht2) ht3 (flat_id rfl) fun H14 s14 => ⟨_, rfl, ?_⟩
          exact ⟨(((s110.trans s11).trans s12).trans s13).trans s14, (hb10.same (((s11.trans s12).trans s13).trans s14)).mono (by push_cast; omega), _, _, _, _, _, rfl⟩
      · rintro σ H5 ⟨s5, hb5, y3, y4, y5, y6, y7, rfl⟩
        have hb5 : Bag H5 b 100 := hb5.mono (by decide)
        refine rd_ratio (by decide) (bdS (by decide)) fun c1 G1 f1 hc1 => ⟨sz 1, ?_⟩
        intro l1 nl1; generalize he' : upd _ _ _ = G2; obtain ⟨f2, hl1⟩ := new_facts nl1 he'; clear he'
        refine ⟨sz 1, ?_⟩
        intro t1 nt1; generalize he' : upd _ _ _ = G3; obtain ⟨f3, ht1⟩ := new_facts nt1 he'; clear he'
        intro d1 nd1
        generalize he' : upd G3 d1 _ = G4
        obtain ⟨f4, hd1⟩ := new_facts nd1 he'
        clear he'
        refine ⟨sz 7, ?_⟩
        intro l2 nl2; generalize he' : upd _ _ _ = G5; obtain ⟨f5, hl2⟩ := new_facts nl2 he'; clear he'
        have F5 := (((f1.trans f2).trans f3).trans f4).trans f5
        have hbG := hb5.same F5
        have nbq : ∀ {G : Hp} {l : Addr}, Same H5 G → G l = none → l ≠ b := fun sg ng z => by
          obtain ⟨_, _, _, e, _⟩ := hb5.same sg
          rw [z, e] at ng; cases ng
        have n1 : l1 ≠ b := nbq f1 nl1
        have n2 : l2 ≠ b := nbq (((f1.trans f2).trans f3).trans f4) nl2
        refine ⟨_, rfl, b, _, _, rfl, hbG, by omega, by decide, bdS (by decide), fun r H6 r0 r1 s6 hb6 => ?_⟩
        have hall : ∀ v ∈ [V.non, .int 5, .ref c1, .ref l1, .ref t1, .ref d1, .bl true], (∃ t, TyY K (ga K "Ratio") v H6 t ∧ OkT (ga K "Ratio") t ∧ t ≠ .type "str") ∧ (flatV v = true ∨ ∃ a, v = .ref a) := by
          have mk : ∀ {v : V} {n : String}, n ∈ ordT → n ≠ "str" → TyX K H6 v (.type n) → (flatV v = true ∨ ∃ a, v = .ref a) → (∃ t, TyY K (ga K "Ratio") v H6 t ∧ OkT (ga K "Ratio") t ∧ t ≠ .type "str") ∧ (flatV v = true ∨ ∃ a, v = .ref a) := fun hn h1 h hf => ⟨⟨_, .inl h, .inr ⟨_, hn, rfl⟩, fun z => h1 (by cases z; rfl)⟩, hf⟩
          intro v hv
          simp only [List.mem_cons, List.not_mem_nil, or_false] at hv
          rcases hv with rfl | rfl | rfl | rfl | rfl | rfl | rfl
          · exact mk (n := "NoneType") (by decide) (by decide) (.base .non) (.inl rfl)
          · exact mk (n := "int") (by decide) (by decide) (.base (.int _)) (.inl rfl)
          · obtain ⟨dc, hdc⟩ := sb_rat s6 hbG (hc1.same (((f2.trans f3).trans f4).trans f5))
            exact ⟨⟨.ref (ga K "Ratio"), .inr ⟨rfl, c1, dc, _, rfl, hdc⟩, .inl rfl, fun z => nomatch z⟩, .inr ⟨_, rfl⟩⟩
          · exact mk (n := "list") (by decide) (by decide) (.base (.lst (s6 _ _ (((f3.trans f4).trans f5) _ _ hl1) n1))) (.inr ⟨_, rfl⟩)
          · exact mk (n := "tuple") (by decide) (by decide) (.base (.tup (sb_keep s6 hbG ((f4.trans f5) _ _ ht1) (fun l z => nomatch z)))) (.inr ⟨_, rfl⟩)
          · exact mk (n := "dict") (by decide) (by decide) (.base (.dK (sb_keep s6 hbG (f5 _ _ hd1) (fun l z => nomatch z)))) (.inr ⟨_, rfl⟩)
          · exact mk (n := "bool") (by decide) (by decide) (.base (.bl _)) (.inl rfl)
        obtain ⟨o, eo, ⟨to, h1, h2, h3⟩, hof⟩ := mem_at hall r0 (by simpa using r1)
        refine rd_ixL (s6 _ _ hl2 n2) eo ?_
        have s16 := same_sb (s5.trans F5) s6 nb
        refine ⟨_, rfl, o, rfl, .inl ⟨to, h1, h2, h3, fun t2 H7 s7 ht2 => ⟨_, rfl, sz 2, ?_⟩⟩⟩
        intro t3 nt3; generalize he' : upd _ _ _ = H8; obtain ⟨s8, ht3⟩ := new_facts nt3 he'; clear he'
        refine rd_tW (s8 _ _ ht2) ht3 (.inl (.inl ⟨rfl, hof⟩)) fun H9 s9 => ⟨_, rfl, ?_⟩
        have S9 := (s7.trans s8).trans s9
        refine ⟨_, rfl, b, _, rfl, hb6.same S9, by omega, fun H10 s10 hb10 => ⟨_, rfl, ?_⟩⟩
        exact ⟨s1.trans (same_sb (s16.trans S9) s10 nb), _, _, _, _, _, _, _, _, rfl⟩
    · rintro σ H1 ⟨s1, z1, z2, z3, z4, z5, z6, z7, z8, rfl⟩
      refine ⟨rfl, fun H2 s2 => ⟨_, rfl, ?_⟩⟩
      have g73 : Good [45, 55, 47, 51] (-7, 3) := ⟨by constructor <;> decide, by decide +kernel⟩
      refine ⟨rfl, .str (Str.ofString "-7/3"), rfl, .inr ⟨[45, 55, 47, 51], by decide +kernel, by decide, fun z => ?_, fun _ p g c H3 s3 hc => ?_⟩⟩
      · rcases z with z | z
        · exact absurd z (by decide)
        · exact absurd g73 (z _)
      have ep : p = (-7, 3) := g.one g73
      subst ep
      refine ⟨_, rfl, rd_ratio (by decide) (bdS (by decide)) fun c2 H4 s4 hc2 => ?_⟩
      rw [show nrm (-7) 3 = (-7, 3) by decide] at hc2
      refine ⟨c, _, _, rfl, hc.same s4, .inr ⟨_, _, .of hc2, fun H5 s5 => ⟨_, rfl, ?_⟩⟩⟩
      clear hc hc2 g g73
      -- a hundred signs
      have em : Txt.mul (Str.ofString "3") 98 = S (List.replicate 98 51) := by decide +kernel
      have ea : Str.ofString "1/" ++ S (List.replicate 98 51) = S ([49, 47] ++ List.replicate 98 51) := by decide +kernel
      have mo : MulOk (Str.ofString "3") 98 := ⟨by decide, fun _ _ => by decide +kernel, fun _ _ => by decide +kernel⟩
      have hd : digB (figs (List.replicate 98 51)) = true := by decide +kernel
      have hne : figs (List.replicate 98 51) ≠ [] := by decide +kernel
      have ei : intL (valL (List.replicate 98 51)) = List.replicate 98 51 := (canon hd hne).mpr fun ⟨⟨r, hr'⟩, _⟩ => by
        have e0 : figs (List.replicate 98 51) = 51 :: List.replicate 97 51 := by decide +kernel
        rw [e0] at hr'
        exact absurd (List.cons.inj hr').1 (by decide)
      have hv : intText? (S (List.replicate 98 51)) = some (valL (List.replicate 98 51)) := int_valL hd hne (by simp)
      have hpos : 1 < valL (List.replicate 98 51) := by decide +kernel
      generalize valL (List.replicate 98 51) = n at ei hv hpos
      have gb : Good ([49, 47] ++ List.replicate 98 51) (1, n) := by
        refine ⟨⟨by show 0 < n; omega, by show Int.gcd 1 n = 1; exact Int.gcd_one_left n⟩, ?_⟩
        unfold ratL
        rw [if_neg (by show ¬ n = 1; omega), ei]
        show intL 1 ++ 47 :: List.replicate 98 51 = [49, 47] ++ List.replicate 98 51
        decide +kernel
      refine ⟨_, _, rfl, rfl, mo, ?_⟩
      rw [em]
      refine ⟨_, _, rfl, rfl, by rw [S_len]; decide +kernel, ?_⟩
      rw [ea]
      refine ⟨_, rfl, .inr ⟨_, rfl, by simp, fun z => ?_, fun _ p g => ?_⟩⟩
      · rcases z with z | z
        · simp at z
        · exact absurd gb (z _)
      have ep : p = (1, n) := g.one gb
      subst ep
      intro t1 H6 s6 ht1
      refine ⟨_, _, rfl, rfl, mo, ?_⟩
      rw [em]
      refine ⟨_, _, rfl, hv, by rw [S_len]; simp, sz 2, ?_⟩
      intro t2 nt2; generalize he' : upd _ _ _ = H7; obtain ⟨s7, ht2⟩ := new_facts nt2 he'; clear he'
      refine rd_tP (p := (1, n)) (s7 _ _ ht1) ht2 fun H8 s8 => ⟨_, rfl, ?_⟩
      have ng : ∀ p, ¬ Good [50, 47, 52] p := fun p g => by
        have ew := Good.words (ps := [[50], [52]]) (by simp) (by decide) g
        have i2 : intL 2 = [50] := by decide +kernel
        have i4 : intL 4 = [52] := by decide +kernel
        split at ew
        · exact absurd (congrArg List.length ew) (by simp)
        · rw [← i2, ← i4] at ew
          have e1 := intL_inj (List.cons.inj ew).1
          have e2 := intL_inj (List.cons.inj (List.cons.inj ew).2).1
          have := g.1.2
          rw [← e1, ← e2] at this
          exact absurd this (by decide)
      refine ⟨.str (Str.ofString "2/4"), rfl, .inr ⟨[50, 47, 52], by decide +kernel, by decide, fun _ t3 H9 s9 ht3 => ⟨sz 2, ?_⟩, fun _ p g => absurd g (ng p)⟩⟩
      intro t4 nt4; generalize he' : upd _ _ _ = H10; obtain ⟨s10, ht4⟩ := new_facts nt4 he'; clear he'
      exact rd_tW (s10 _ _ ht3) ht4 (flat_id rfl) fun H11 s11 => k H11
theorem ok_law (T : TX K mg) : FnR P w K mg base (L2.CX P w) 12 (ga K "law") (spLaw K) := (okd_law T).r (fun _ _ _ _ _ _ us hl => match us, hl with | [_], _ => rfl)
end
end Lw
set_option Elab.async false
set_option linter.all false
set_option maxRecDepth 100000
set_option maxHeartbeats 4000000
/-! The end. -/
namespace Lw
open PySem PySem.Spec PyProof.Rows L2 He Wl
theorem facts {P : Program} {w : World} {K : PySem.W.Frag} {h : Heap} {mg : Str → Option Value} {f : Addr} (X : K.In h) (G : h.Ns mainGlobals mg) (hfa : mg ("law" : Str) = some (.ref f)) (c : SaysY fa fn exB K) :
    ∃ fd : FuncData, (∀ (s : Shared) (v : Value), BindsTo s fd ⟨[v], []⟩ [("_law_script", v)]) ∧ ∀ base : Heap, K.In base → base.Ns mainGlobals mg → FnOk P w K mg base (L2.CX P w) 12 f fd ["_law_script"] (spLaw K) := by
  have T : TX K mg := ty_mk X G c
  have e := hfa.symm.trans (T.g 25)
  cases e
  obtain ⟨fd, F⟩ := T.d 40
  have b := FunD.bindsA (ps := ["_law_script"]) F fun _ _ _ _ _ _ us hl => match us, hl with | [_], _ => rfl
  refine ⟨fd, fun s v => b s [v] rfl, fun base _ _ => ?_⟩
  obtain ⟨fd', F', G'⟩ := (okd_law (P := P) (w := w) (base := base) T).ex
  have ef : fd' = fd := by
    obtain ⟨o1, d1, a1, a2, a3, a4, a5, a6, a7, a8, e1, l1, _⟩ := F.ex
    obtain ⟨o2, d2, b1, b2, b3, b4, b5, b6, b7, b8, e2, l2, _⟩ := F'.ex
    have l1' : K.lookup (ga K "law") = some ⟨o1, d1, .func fd, a8⟩ := l1
    rw [l1'] at l2
    have z := congrArg Obj.data (Option.some.inj l2)
    exact (Data.func.inj z).symm
  rw [← ef]; exact G'
end Lw
open PySem PySem.W PySem.Calls PyProof.Rows
theorem PySem.Challenge.cw_winoften_k03_texts_of_ratios_holds : PySem.Challenge.rw_winoften_k03_texts_of_ratios.Holds := by
  w_on; o_law
  refine HandSHeadRun.head_any (r := OpenLaw.row PySem.Challenge.rw_winoften_k03_texts_of_ratios) (q := view (OpenLaw.row PySem.Challenge.rw_winoften_k03_texts_of_ratios).prog [35]) (H := Lw.hk) (ob := Lw.ob) (M := 4000) (loose := Lw.names) (d := HandSHeadRun.topDef (OpenLaw.row PySem.Challenge.rw_winoften_k03_texts_of_ratios).prog 35) (kwd := []) Lw.ob_eq
    (by kernel_rfl) (fun s => by kernel_rfl) Lw.run (by kernel_rfl) (by kernel_rfl) (by kernel_rfl) (by rfl) (by first | assumption | decide +kernel) (by decide +kernel) ⟨rfl, rfl, rfl, rfl, rfl, by decide +kernel⟩ ?hw ?hc
  case hw => w_witness2
  case hc =>
    refine Wl.walk_ofW (l := PySem.Challenge.rw_winoften_k03_texts_of_ratios) (n := 63) (k := 12) (x := "_law_script") (CX := fun w => L2.CX (PySem.Challenge.rw_winoften_k03_texts_of_ratios).prog w) rfl (by decide) (by kernel_rfl) ⟨rfl, by decide, by decide⟩ ?F (fun _ _ _ _ _ z => Wl.cx_never z)
    intro w mg fa h Y G hmg0
    obtain ⟨K, KX, c⟩ := Y
    have hmg : mg ("law" : PySem.Str) = some (.ref fa) := by
      have e : (HandSHeadRun.topDef (OpenLaw.row PySem.Challenge.rw_winoften_k03_texts_of_ratios).prog 35).name = ("law" : PySem.Str) := by kernel_rfl
      rw [← e]
      exact hmg0
    obtain ⟨fd, hb, hF⟩ := Lw.facts (P := (PySem.Challenge.rw_winoften_k03_texts_of_ratios).prog) (w := w) KX G hmg c
    exact ⟨K, fd, Lw.spLaw K, KX, hb, fun H a ns hl _ hS => ⟨a, ns, rfl, hS, fun _ => rfl⟩, hF⟩
