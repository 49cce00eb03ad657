import PyProof.Rows.All
import Wide.All
import OpenK.AllK
import Wide.FinOn
import KE.KOpsOwn
import HandS.ForMost
import HandS.ForExc
import HandS.More
import HandS.Flow
import HandS.Style
import HandS.Defaults
import HandS.MakeKw
import HandS.Slots
import HandS.SlotsOwn
import HandS.IsInst
import HandS.ExcInit
import HandS.TryMany
import HandS.Wide
import HandS.OwnEq
import HandS.RaiseMore
import KE.KStateDown
import Lean
import HandS.Head0
import HandS.Head1
import HandS.Head2
import HandS.HeadEnd
import HandS.HeadHook1
import HandS.HeadHook2
import HandS.ClsMeth
import HandS.ExcField
import KE.GoesEnum
import HandS.Walk
import HandS.MakeKwOnly
import PySem.Challenge.RW_winoften_k02_ratios_reckoned
set_option Elab.async false
set_option linter.all false
set_option maxRecDepth 100000
set_option maxHeartbeats 4000000
/-! Wl, part A: rules over the hand layer that the laws of winoften want besides. -/
namespace Wl
open PySem PySem.Spec PyProof.Rows L2

/-! ### heaps -/
theorem same_new {H : Hp} {p : Addr} {o : HO} (n : H p = none) : Same H (upd H p o) := fun b u e => by
  rw [upd_ne (ne_of_none e n)]; exact e
/-- a new object: the heap from then on is any that has it and all that was -/
theorem grow {H : Hp} {o : HO} {R : Addr → Hp → Prop} (h : ∀ p H', Same H H' → H p = none → H' p = some o → R p H') : ∀ p, H p = none → R p (upd H p o) :=
  fun p n => h p _ (same_new n) n upd_same
theorem new_facts {H H1 : Hp} {p : Addr} {o : HO} (n : H p = none) (he : upd H p o = H1) : Same H H1 ∧ H1 p = some o := by
  subst he
  exact ⟨same_new n, upd_same⟩
/-- all but what stands at l stays -/
def SB (l : Addr) (H H' : Hp) : Prop := ∀ b o, H b = some o → b ≠ l → H' b = some o
theorem Same.sb {l : Addr} {H H' : Hp} (h : Same H H') : SB l H H' := fun b o e _ => h b o e
theorem SB.refl (l : Addr) (H : Hp) : SB l H H := fun _ _ e _ => e
theorem SB.trans {l : Addr} {H H1 H2 : Hp} (a : SB l H H1) (b : SB l H1 H2) : SB l H H2 := fun c o e n => b c o (a c o e n) n
theorem SB.upd {l : Addr} {H : Hp} {o : HO} : SB l H (upd H l o) := fun b u e n => by rw [upd_ne n]; exact e
theorem SB.same {l : Addr} {H H' : Hp} (h : SB l H H') (n : H l = none) : Same H H' := fun b o e => h b o e (ne_of_none e n)

theorem sz (n : Nat) (h : n ≤ 1000 := by decide) : n ≤ sizeLine := Nat.le_trans h (by decide)
/-! ### calls by a positional promise -/
def tCallR (sp : Sp) (E : XK) (t : TA) : TE := fun σ H Q => t σ H fun vs H1 => sp vs H1 Q E
section
variable {X : Cx} {CX : CXT} {k : Nat} {f : Addr} {sp : Sp} {E : XK} {x : Str} {p pos : Pos} {e : Expr} {es : List Expr} {t : TA}
theorem pe_callR (F : FnR X.prog X.w X.K X.mg X.base CX k f sp) (hr : Room k X.A) (hk : PySem.W.keepIn X.K (.ref f) = true) (hg : Gl X x) (hm : X.mg x = some (.ref f)) (hx : Passes CX X E) (ha : PA X (e :: es) t)
    (hdb : (x == ("__debug__" : Str)) = false := by decide) (he : starEach (e :: es) X.env = (false, eval e X.env) :: starEach es X.env := by rfl) (hpl : (backTo pos (starEach es X.env)).any (·.1) = false := by rfl) :
    PE X (.Call (.Name x p) (e :: es) [] pos) (tCallR sp E t) := by
  refine ⟨fun pins s σ H Q I h => ?_⟩
  refine wpAny_Call_Name_kw (ld_glob I hg hm ?_ hdb)
  refine PySem.W.callWith_K (h₀ := X.base) I.ok.mod.kin hk (thn (ha.run pos pins s σ H _ I h) fun us s1 ⟨vs, H1, I1, r, q⟩ => ⟨I1.kIn, ?_⟩) he hpl
  exact wpAny_call (run_fnR F hr hx I1 r q)
end

/-! ### integers -/
def CDivNW (_ j : Int) : Prop := j ≠ 0 ∧ j.natAbs.log2 < 9000
theorem op_fdivNW {X : Cx} : OpR X (binaryOp .FloorDiv) (rI CDivNW fun i j => .int (i.fdiv j)) := opI fun _ _ _ _ _ _ _ hc q => floordiv_int hc.1 q (.inl (PyProof.noPylong_of_log2 hc.2))

/-! ### a class with slots: its own operators -/
/-- how the class at C does the operator nm by the def at f, beside ints -/
structure OwnOp (K : PySem.W.Frag) (C : Addr) (nm : String) (f : Addr) : Prop where
  sf : PySem.W.selfFirst K C = true
  hs : PySem.W.findIn K (.ref C) (PySem.dunder nm) = some (some (.ref f))
  hf : PySem.W.isFn K (.ref f) = true
  hr : PySem.W.findIn K (.ref C) (dunderR nm) = some none
  h1 : ∃ fo, PySem.W.findIn K (.type "int") (PySem.dunder nm) = some fo
  h2 : ∃ ro, PySem.W.findIn K (.type "int") (dunderR nm) = some ro
  hsub : PySem.W.subIn K (.type "int") (.ref C) = some false
/-- an int, or an instance of C -/
def NumLike (C : Addr) (y : V) (H : Hp) : Prop := (∃ i, y = .int i) ∨ ∃ b dy ws, y = .ref b ∧ SlX.Slt H b C dy ws
def rBinSl (C : Addr) (sp : Sp) (E : XK) : R2 := fun x y H Q => ∃ a dx vs, x = .ref a ∧ SlX.Slt H a C dx vs ∧ NumLike C y H ∧ sp [x, y] H Q E
section
variable {X : Cx} {CX : CXT} {C f : Addr} {n : Nat} {sp : Sp} {E : XK}
theorem op_binSl {op : Operator} {nm : String} (hi : op.info.2 = nm) (O : OwnOp X.K C nm f) (F : FnR X.prog X.w X.K X.mg X.base CX n f sp) (hr : Room n X.A) (hx : Passes CX X E) : OpR X (binaryOp op) (rBinSl C sp E) := by
  intro pins s σ H x y v u Q I rx ry h
  obtain ⟨a, dx, vs, rfl, ha, hy, q⟩ := h
  subst hi
  cases (show v = Value.ref a from rx)
  obtain ⟨sl, od, _, J, _⟩ := SlX.slt_inst I ha
  obtain ⟨m, hF⟩ := I.fr
  have back : wpAny (model X.prog X.w) X.A (call (.ref f) [.ref a, u]) (PySem.W.CmpBack (EP X pins σ Q)) X.xe s := by
    refine wpAny_mono (wpAny_call (run_fnR (us := [.ref a, u]) (vs := [.ref a, y]) F hr hx I (.cons rfl (.cons ry .nil)) q)) (fun w s' z => ?_) fun _ _ x => x
    obtain ⟨z', H', I', rz, qz⟩ := z
    exact SlX.cmpback rz ⟨z', H', I', rz, qz⟩
  rcases hy with ⟨i, rfl⟩ | ⟨b, dy, ws, rfl, hb⟩
  · obtain ⟨t, rfl⟩ := (show ∃ t, u = Value.int i t from ry)
    obtain ⟨fo, h1⟩ := O.h1
    obtain ⟨ro, h2⟩ := O.h2
    exact PySem.W.ksp_binT (T := "int") hF I.ok.mod.kin J rfl O.sf O.hs O.hf O.hr (.inl rfl) h1 h2 O.hsub back
  · cases (show u = Value.ref b from ry)
    obtain ⟨sl', od', _, J', _⟩ := SlX.slt_inst I hb
    exact PySem.W.binop_K hF I.ok.mod.kin J J'.type O.sf O.hs O.hf back
/-- -x -/
theorem un_negSl (hs : PySem.W.findIn X.K (.ref C) "__neg__" = some (some (.ref f))) (hf : PySem.W.isFn X.K (.ref f) = true) (F : FnR X.prog X.w X.K X.mg X.base CX n f sp) (hr : Room n X.A) (hx : Passes CX X E) :
    UnR X (unaryOp .USub) (fun x H Q => ∃ a dx vs, x = .ref a ∧ SlX.Slt H a C dx vs ∧ sp [x] H Q E) := by
  intro pins s σ H x v Q I rx h
  obtain ⟨a, dx, vs, rfl, ha, q⟩ := h
  cases (show v = Value.ref a from rx)
  obtain ⟨sl, od, _, J, _⟩ := SlX.slt_inst I ha
  obtain ⟨m, hF⟩ := I.fr
  exact PySem.W.ksp_neg hF I.ok.mod.kin J hs hf (wpAny_call (run_fnR (us := [.ref a]) (vs := [.ref a]) F hr hx I (.cons rfl .nil) q))

/-- the type of any value that is met beside an instance of C -/
def TyY (K : PySem.W.Frag) (C : Addr) (y : V) (H : Hp) (t : Value) : Prop := TyX K H y t ∨ (t = .ref C ∧ ∃ b dy ws, y = .ref b ∧ SlX.Slt H b C dy ws)
theorem tyY_looks {pins : List (Addr × Obj)} {σ : L2.St} {H : Hp} {s : Shared} {y : V} {u t : Value} (I : Inv X pins σ H s) (ry : RelV y u) (h : TyY X.K C y H t) : PySem.W.Looks (model X.prog X.w) s.heap (typeOf u) t := by
  rcases h with h | ⟨rfl, b, dy, ws, rfl, hb⟩
  · obtain ⟨P, Z, p, _⟩ := kit_of I ry h
    exact Z.ty _ _ I.kIn p
  · cases (show u = Value.ref b from ry)
    obtain ⟨sl', od', _, J', _⟩ := SlX.slt_inst I hb
    exact J'.type
def rCmpSl (K : PySem.W.Frag) (C : Addr) (sp : Sp) (E : XK) : R2 := fun x y H Q => ∃ a dx vs t, x = .ref a ∧ SlX.Slt H a C dx vs ∧ TyY K C y H t ∧ PySem.W.notFirst K C t = true ∧ sp [x, y] H Q E
theorem op_eqSl (hs : PySem.W.findIn X.K (.ref C) "__eq__" = some (some (.ref f))) (hf : PySem.W.isFn X.K (.ref f) = true) (F : FnR X.prog X.w X.K X.mg X.base CX n f sp) (hr : Room n X.A) (hx : Passes CX X E) :
    OpR X (compareOp .Eq) (rCmpSl X.K C sp E) := by
  intro pins s σ H x y v u Q I rx ry h
  obtain ⟨a, dx, vs, t, rfl, ha, hy, hn, q⟩ := h
  cases (show v = Value.ref a from rx)
  obtain ⟨sl, od, _, J, _⟩ := SlX.slt_inst I ha
  obtain ⟨m, hF⟩ := I.fr
  show wpAny (model X.prog X.w) X.A (richCompare .Eq (.ref a) u) (EP X pins σ Q) X.xe s
  refine PySem.W.cmp_K (op := .Eq) (tb := t) hr.units0 hF I.ok.mod.kin J (tyY_looks I ry hy) hn hs hf ?_
  refine wpAny_mono (wpAny_call (run_fnR (us := [.ref a, u]) (vs := [.ref a, y]) F hr hx I (.cons rfl (.cons ry .nil)) q)) (fun w s' z => ?_) fun _ _ x => x
  obtain ⟨z', H', I', rz, qz⟩ := z
  exact SlX.cmpback rz ⟨z', H', I', rz, qz⟩
end

/-! ### x != y by an own __eq__ (no own __ne__) -/
section
open PySem.W Builtin
variable {prog : Program} {w : World} {A : Around} {E : Value → Shared → Prop} {s : Shared} {K : PySem.W.Frag} {x C L f : Addr} {h0 : Heap} {m : Str → Option Value} {ox : Obj} {od : Option Obj} {b tb : Value}
theorem ne_K {Q : Value → Shared → Prop} (hu : A.units + 1 < cLine) (F : Fr h0 L s.heap m) (X0 : K.In h0) (I : InstAt s.heap x ox C od) (hb : Looks (model prog w) s.heap (typeOf b) tb) (hn : notFirst K C tb = true)
    (hne : findIn K (.ref C) "__ne__" = some (some (.builtin "object.__ne__"))) (hm : mroIn K C (.type "object") = some true) (hs : findIn K (.ref C) "__eq__" = some (some (.ref f))) (hf : isFn K (.ref f) = true)
    (h : wpAny (model prog w) A.in1 (call (.ref f) [.ref x, b]) (fun v s' => ∃ r, v = .bool r ∧ Q (.bool (!r)) s') E s) : wpAny (model prog w) A (richCompare .NotEq (.ref x) b) Q E s := by
  have X := X0.keeps F.keep
  have sub : Looks (model prog w) s.heap (isInstance (.ref x) (.type "object")) true := I.type.andThen (looks_mroIn X hm)
  have inner : wpAny (model prog w) A (call (.builtin "object.__ne__") [.ref x, b]) (fun v s' => ∃ r, v = .bool r ∧ Q (.bool r) s') E s := by
    refine wpAny_call (codeAny_call_builtin (by decide +kernel) PySem.F.cmpEntry_ne (@check_slot (model prog w) _ _ s "object.__ne__" "object" "__ne__" (.ref x) [b] [] _ PySem.F.cmpKind_ne PySem.F.cmpSplit_ne sub (PySem.F.cmpArgs_ne _ _) ?_))
    unfold Builtin.«object.__ne__»
    have hu1 : A.in1.units < cLine := hu
    repeat (first
      | with_reducible refine wpAny_cRoomFor hu1 ?_
      | (refine wpAny_bind (m := callSpecialIfBound? (.ref x) (Str.ofString "__eq__") [b])
          (ifBound_K X I hs hf (wpAny_mono h (fun r s' hr => by
            obtain ⟨c, rfl, hq⟩ := hr
            repeat (first | exact ⟨_, rfl, hq⟩ | exact wpAny_pure ⟨_, rfl, hq⟩ | exact wpAny_truthy_bool ⟨_, rfl, hq⟩ | (refine wpAny_bind (m := truthy (.bool _)) (wpAny_truthy_bool ?_)) | wp_step)) fun _ _ e => e)))
      | wp_step)
  have one : wpAny (model prog w) A (tryCompare (.ref x) "__ne__" b) (fun r s' => ∃ v, r = some v ∧ Q v s') E s := by
    unfold tryCompare
    refine wpAny_bind ?_
    simp only [callSpecialIfBound?, bindSpecialIfBound?]
    refine wpAny_holding (wpAny_bind (wpAny_bind (wpAny_bind (I.type.here ((looks_findIn X hne).here ?_)))))
    have bnd : ∀ self : Value, Looks (model prog w) s.heap (bindSpecial (.builtin "object.__ne__") self) (.builtin "object.__ne__", [self]) := fun self => Looks.of_pure (by kernel_rfl)
    have fin : wpAny (model prog w) A (call (.builtin "object.__ne__") ([.ref x] ++ [b]) >>= fun v => pure (some v)) (fun r s' => wpAny (model prog w) A (match r with | some .notImplemented => pure none | none => pure none | some v => pure (some v)) (fun r s' => ∃ v, r = some v ∧ Q v s') E s') E s := by
      refine wpAny_bind (wpAny_mono inner (fun v s' hv => ?_) fun _ _ h' => h')
      obtain ⟨r, rfl, hq⟩ := hv
      exact wpAny_pure (wpAny_pure ⟨_, rfl, hq⟩)
    refine wpAny_bind (wpAny_askSetting (wpAny_ite ?_))
    split
    · exact wpAny_bind ((bnd _).here (wpAny_pure fin))
    · exact wpAny_tryCatch (wpAny_bind ((bnd _).here (wpAny_pure fin)))
  unfold richCompare
  simp only [oneThing_ref]
  refine wpAny_holding (wpAny_bind (wpAny_cRoomFor (Nat.lt_of_succ_lt hu) ?_))
  refine wpAny_bind (I.type.here (wpAny_bind (hb.here ?_)))
  split
  · rename_i q
    have e : subIn K tb (.ref C) = some false := by
      rcases Bool.or_eq_true_iff.mp hn with e | e
      · rw [beq_iff_eq.mp e] at q; simp at q
      · exact beq_iff_eq.mp e
    refine wpAny_bind ((looks_subIn X e).here ?_)
    simp only [Bool.false_eq_true, if_false]
    refine wpAny_bind (wpAny_mono one (fun r s' z => ?_) fun _ _ e => e)
    obtain ⟨v, rfl, hq⟩ := z
    exact wpAny_pure hq
  · refine wpAny_bind (wpAny_pure ?_)
    simp only [Bool.false_eq_true, if_false]
    refine wpAny_bind (wpAny_mono one (fun r s' z => ?_) fun _ _ e => e)
    obtain ⟨v, rfl, hq⟩ := z
    exact wpAny_pure hq
end
section
variable {X : Cx} {CX : CXT} {C f : Addr} {n : Nat} {sp : Sp} {E : XK}
/-- x != y: what the own __eq__ says is turned -/
theorem op_neSl (hne : PySem.W.findIn X.K (.ref C) "__ne__" = some (some (.builtin "object.__ne__"))) (hm : PySem.W.mroIn X.K C (.type "object") = some true) (hs : PySem.W.findIn X.K (.ref C) "__eq__" = some (some (.ref f))) (hf : PySem.W.isFn X.K (.ref f) = true)
    (F : FnR X.prog X.w X.K X.mg X.base CX n f sp) (hr : Room (n + 1) X.A) (hx : Passes CX X E) :
    OpR X (compareOp .NotEq) (fun x y H Q => ∃ a dx vs t, x = .ref a ∧ SlX.Slt H a C dx vs ∧ TyY X.K C y H t ∧ PySem.W.notFirst X.K C t = true ∧ sp [x, y] H (fun z H' => ∃ r, z = .bl r ∧ Q (.bl (!r)) H') E) := by
  intro pins s σ H x y v u Q I rx ry h
  obtain ⟨a, dx, vs, t, rfl, ha, hy, hn, q⟩ := h
  cases (show v = Value.ref a from rx)
  obtain ⟨sl, od, _, J, _⟩ := SlX.slt_inst I ha
  obtain ⟨m, hF⟩ := I.fr
  show wpAny (model X.prog X.w) X.A (richCompare .NotEq (.ref a) u) (EP X pins σ Q) X.xe s
  refine ne_K (tb := t) (hu_of hr) hF I.ok.mod.kin J (tyY_looks I ry hy) hn hne hm hs hf ?_
  refine wpAny_mono (wpAny_call (SlX.run_at (us := [.ref a, u]) (ws := [.ref a, y]) F hr.in1 I.env0.in1 hx I (.cons rfl (.cons ry .nil)) q)) (fun w s' z => ?_) fun _ _ x => x
  obtain ⟨z', H', I', rz, r, rfl, qz⟩ := z
  cases (show w = Value.bool r from rz)
  exact ⟨r, rfl, .bl (!r), H', I', rfl, qz⟩
end
end Wl
set_option Elab.async false
set_option linter.all false
set_option maxRecDepth 100000
/-! Wl, part R: quotients in lowest terms, plain Lean. -/
namespace Wl
/-- below n bits -/
def Bd (n : Nat) (x : Int) : Prop := x.natAbs < 2 ^ n
theorem Bd.mono {m n : Nat} {x : Int} (h : Bd m x) (l : m ≤ n) : Bd n x := Nat.lt_of_lt_of_le h (Nat.pow_le_pow_right (by decide) l)
theorem Bd.mul {m n : Nat} {x y : Int} (a : Bd m x) (b : Bd n y) : Bd (m + n) (x * y) := L2.wide_lt a b
theorem Bd.add {n : Nat} {x y : Int} (a : Bd n x) (b : Bd n y) : Bd (n + 1) (x + y) := by
  unfold Bd at *
  have h := Int.natAbs_add_le x y
  rw [Nat.pow_succ]; omega
theorem Bd.neg {n : Nat} {x : Int} (a : Bd n x) : Bd n (-x) := by unfold Bd at *; rw [Int.natAbs_neg]; exact a
theorem Bd.sub {n : Nat} {x y : Int} (a : Bd n x) (b : Bd n y) : Bd (n + 1) (x - y) := by rw [Int.sub_eq_add_neg]; exact a.add b.neg
theorem Bd.le {n : Nat} {x y : Int} (a : Bd n y) (h : x.natAbs ≤ y.natAbs) : Bd n x := Nat.lt_of_le_of_lt h a
theorem Bd.one {n : Nat} (h : 0 < n) : Bd n 1 := by
  unfold Bd
  exact Nat.one_lt_two_pow (by omega)
theorem Bd.mulW {m n : Nat} {x y : Int} (a : Bd m x) (b : Bd n y) (h0 : 0 < m) (h1 : 0 < n) (h : m + n ≤ 1000000) : L2.CMulW x y := L2.wide_mul a b h0 h1 h

theorem fmod_natAbs_lt (a : Int) {b : Int} (h : b ≠ 0) : (a.fmod b).natAbs < b.natAbs := by
  rcases Int.lt_trichotomy b 0 with hb | hb | hb
  · have h0 : a.fmod b = -((-a).fmod (-b)) := by rw [Int.neg_fmod_neg, Int.neg_neg]
    have h1 := Int.fmod_nonneg_of_pos (-a) (show 0 < -b by omega)
    have h2 := Int.fmod_lt_of_pos (-a) (show 0 < -b by omega)
    omega
  · exact absurd hb h
  · have h1 := Int.fmod_nonneg_of_pos a hb
    have h2 := Int.fmod_lt_of_pos a hb
    omega
theorem gcd_fmod (a b : Int) : Int.gcd b (a.fmod b) = Int.gcd a b := by
  have h : a.fmod b = a + b * (-(a.fdiv b)) := by
    have := Int.fmod_add_mul_fdiv a b
    rw [Int.mul_neg]; omega
  rw [h, Int.gcd_add_mul_left_right, Int.gcd_comm]
/-- the common divisor with the sign of the bottom -/
def gsg (p q : Int) : Int := if 0 < q then (Int.gcd p q : Int) else -(Int.gcd p q : Int)
/-- in lowest terms, the bottom above 0 -/
def nrm (p q : Int) : Int × Int := (p.fdiv (gsg p q), q.fdiv (gsg p q))
def Low (p q : Int) : Prop := 0 < q ∧ Int.gcd p q = 1
theorem gsg_natAbs (p q : Int) : (gsg p q).natAbs = Int.gcd p q := by
  unfold gsg; split <;> omega
theorem gcd_pos {p q : Int} (h : q ≠ 0) : 0 < Int.gcd p q := Int.gcd_pos_of_ne_zero_right p h
theorem gsg_ne {p q : Int} (h : q ≠ 0) : gsg p q ≠ 0 := by
  have h1 := gsg_natAbs p q
  have h2 := gcd_pos (p := p) h
  omega
theorem gsg_le {p q : Int} (h : q ≠ 0) : (gsg p q).natAbs ≤ q.natAbs := by
  rw [gsg_natAbs]
  exact Nat.le_of_dvd (by omega) (Int.gcd_dvd_natAbs_right p q)
theorem gsg_dvd_left (p q : Int) : gsg p q ∣ p := by
  unfold gsg; split
  · exact Int.gcd_dvd_left _ _
  · exact Int.neg_dvd.mpr (Int.gcd_dvd_left _ _)
theorem gsg_dvd_right (p q : Int) : gsg p q ∣ q := by
  unfold gsg; split
  · exact Int.gcd_dvd_right _ _
  · exact Int.neg_dvd.mpr (Int.gcd_dvd_right _ _)
theorem nrm_top (p q : Int) : (nrm p q).1 * gsg p q = p := by
  show p.fdiv (gsg p q) * gsg p q = p
  rw [Int.fdiv_eq_ediv_of_dvd (gsg_dvd_left p q), Int.ediv_mul_cancel (gsg_dvd_left p q)]
theorem nrm_bot (p q : Int) : (nrm p q).2 * gsg p q = q := by
  show q.fdiv (gsg p q) * gsg p q = q
  rw [Int.fdiv_eq_ediv_of_dvd (gsg_dvd_right p q), Int.ediv_mul_cancel (gsg_dvd_right p q)]
theorem nrm_pos {p q : Int} (h : q ≠ 0) : 0 < (nrm p q).2 := by
  have e := nrm_bot p q
  have g := gcd_pos (p := p) h
  rcases Int.lt_trichotomy (nrm p q).2 0 with hb | hb | hb
  · exfalso
    by_cases hq : 0 < q
    · have hg : 0 < gsg p q := by unfold gsg; rw [if_pos hq]; omega
      have := Int.mul_neg_of_neg_of_pos hb hg
      omega
    · have hg : gsg p q < 0 := by unfold gsg; rw [if_neg hq]; omega
      have := Int.mul_pos_of_neg_of_neg hb hg
      omega
  · rw [hb, Int.zero_mul] at e; exact absurd e.symm h
  · exact hb
theorem nrm_gcd {p q : Int} (h : q ≠ 0) : Int.gcd (nrm p q).1 (nrm p q).2 = 1 := by
  show Int.gcd (p.fdiv (gsg p q)) (q.fdiv (gsg p q)) = 1
  rw [Int.fdiv_eq_ediv_of_dvd (gsg_dvd_left p q), Int.fdiv_eq_ediv_of_dvd (gsg_dvd_right p q), Int.gcd_ediv (gsg_dvd_left p q) (gsg_dvd_right p q), gsg_natAbs]
  exact Nat.div_self (gcd_pos h)
theorem nrm_low {p q : Int} (h : q ≠ 0) : Low (nrm p q).1 (nrm p q).2 := ⟨nrm_pos h, nrm_gcd h⟩
theorem nrm_of_low {p q : Int} (h : Low p q) : nrm p q = (p, q) := by
  have e : gsg p q = 1 := by unfold gsg; rw [if_pos h.1, h.2]; rfl
  unfold nrm
  rw [e, Int.fdiv_one, Int.fdiv_one]
theorem nrm_le1 {p q : Int} (h : q ≠ 0) : (nrm p q).1.natAbs ≤ p.natAbs := by
  have e := congrArg Int.natAbs (nrm_top p q)
  rw [Int.natAbs_mul] at e
  have g : 0 < (gsg p q).natAbs := by rw [gsg_natAbs]; exact gcd_pos h
  calc (nrm p q).1.natAbs = (nrm p q).1.natAbs * 1 := (Nat.mul_one _).symm
    _ ≤ (nrm p q).1.natAbs * (gsg p q).natAbs := Nat.mul_le_mul_left _ g
    _ = p.natAbs := e
theorem nrm_le2 {p q : Int} (h : q ≠ 0) : (nrm p q).2.natAbs ≤ q.natAbs := by
  have e := congrArg Int.natAbs (nrm_bot p q)
  rw [Int.natAbs_mul] at e
  have g : 0 < (gsg p q).natAbs := by rw [gsg_natAbs]; exact gcd_pos h
  calc (nrm p q).2.natAbs = (nrm p q).2.natAbs * 1 := (Nat.mul_one _).symm
    _ ≤ (nrm p q).2.natAbs * (gsg p q).natAbs := Nat.mul_le_mul_left _ g
    _ = q.natAbs := e
theorem low_one (p : Int) : Low p 1 := ⟨by decide, by rw [Int.gcd_one_right]⟩
theorem Low.ne {p q : Int} (h : Low p q) : q ≠ 0 := by have := h.1; omega
theorem low_nrm1 (p : Int) : nrm p 1 = (p, 1) := nrm_of_low (low_one p)
end Wl
set_option Elab.async false
set_option linter.all false
set_option maxRecDepth 100000
set_option maxHeartbeats 4000000
/-! Wl, part H: the head's facts: defs at any place (global, method, property's getter, classmethod), classes with slots, exceptions. -/
namespace Wl
open PySem PySem.Spec PyProof.Rows L2 He
/-! ### where a def stands -/
inductive Pl where
  | glo (x : Str)
  | met (C m : Str)
  | prp (C m : Str)
  | cme (C m : Str)
/-- the def within a record (a property, a classmethod) -/
def recFn (K : PySem.W.Frag) (p : Addr) (T : String) : Addr := match PySem.W.recIn K p T with
  | some (.ref g :: _) => g
  | _ => 0
def Pl.ad (K : PySem.W.Frag) : Pl → Addr
  | .glo x => ga K x
  | .met C m => ma K (ga K C) m
  | .prp C m => recFn K (ma K (ga K C) m) "property"
  | .cme C m => recFn K (ma K (ga K C) m) "classmethod"
structure DefY where
  at_ : Pl
  name : Str
  qual : Str
  params : Arguments
  body : List Stmt
  scope : Scope
  dfl : List Dv := []
def fnY (K : PySem.W.Frag) (a : Addr) : FnW := match K.lookup a with
  | some ⟨_, _, .func fd, _⟩ => some (fd.name, fd.qualname, fd.params, fd.body, fd.scope, fd.globals, fd.closure, fd.builtins)
  | _ => none
def DefY.val (d : DefY) : FnW := some (d.name, d.qual, d.params, .stmts d.body, d.scope, mainGlobals, [], builtinsNs)
def DefY.dvs (K : PySem.W.Frag) (d : DefY) : List V := d.dfl.map (Dv.v K)
def DefY.ok (K : PySem.W.Frag) (d : DefY) : Bool := PySem.W.keepIn K (.ref (d.at_.ad K)) && (match K.lookup (d.at_.ad K) with
  | some ⟨_, _, .func fd, _⟩ => PySem.W.codeIn K fd.code d.qual && dflB K fd.defaults (d.dvs K)
  | _ => false)
theorem DefY.funD {K : PySem.W.Frag} {d : DefY} (e : fnY K (d.at_.ad K) = d.val) (c : d.ok K = true) : ∃ fd, FunD K d.name d.qual d.params d.body d.scope (d.dvs K) [] (d.at_.ad K) fd := by
  obtain ⟨kp, c2⟩ := ba c
  unfold fnY at e
  cases q : K.lookup (d.at_.ad K) with
  | none =>
    rw [q] at c2
    cases c2
  | some o =>
    obtain ⟨oc, od, dt, osl⟩ := o
    rw [q] at c2 e
    cases dt with
    | func fd =>
      obtain ⟨n1, n2, n3, n4, n5, n6, n7, n8, n9, n10, n11, n12, n13, n14, n15⟩ := fd
      have e2 : (some (n1, n2, n3, n4, n5, n6, n7, n15) : FnW) = some (d.name, d.qual, d.params, .stmts d.body, d.scope, mainGlobals, [], builtinsNs) := e
      simp only [Option.some.injEq, Prod.mk.injEq] at e2
      obtain ⟨h1, h2, h3, h4, h5, h6, h7, h8⟩ := e2
      subst h1 h2 h3 h4 h5 h6 h7 h8
      have c3 : (PySem.W.codeIn K n13 d.qual && dflB K n8 (d.dvs K)) = true := c2
      obtain ⟨k1, k3⟩ := ba c3
      exact ⟨_, ⟨oc, od, n8, n9, n10, n11, n12, n13, n14, osl, rfl, q, k1, dflB_ok k3, .inl rfl⟩, kp⟩
    | _ => cases c2
/-! ### the Hook -/
def obsY (fa : List Fa) (fn : List DefY) (ex : PySem.W.Frag → Bool) (K : PySem.W.Frag) : AlD := ((fa.all fun f => f.ok K) && ((fn.all fun d => d.ok K) && ex K), fn.map fun d => fnY K (d.at_.ad K))
def valY (fn : List DefY) : AlD := (true, fn.map DefY.val)
def SaysY (fa : List Fa) (fn : List DefY) (ex : PySem.W.Frag → Bool) (K : PySem.W.Frag) : Prop := obsY fa fn ex K = valY fn
def obsYG (n : Nat) (fa : List Fa) (fn : List DefY) (ex : PySem.W.Frag → Bool) (g : Addr → Option Obj) : AlD := obsY fa fn ex (frG g (cStatics :: asD g n))
def hookY (n : Nat) (fa : List Fa) (fn : List DefY) (ex : PySem.W.Frag → Bool) : PySem.W.Hook where
  α := AlD
  obs := fun s => obsYG n fa fn ex s.heap.get?
  val := fun _ => valY fn
  says := fun _ h => ∃ K : PySem.W.Frag, K.In h ∧ SaysY fa fn ex K
  of := fun _ _ e => ⟨_, frG_in, e⟩
  keeps := fun _ _ _ ⟨K, hK, c⟩ k => ⟨K, PySem.W.Frag.In.keeps hK k, c⟩
theorem obsYG_eq {n : Nat} {fa : List Fa} {fn : List DefY} {ex : PySem.W.Frag → Bool} {g : Addr → Option Obj} {s : Shared} (h : ∀ a, g a = s.heap.get? a) : obsYG n fa fn ex g = (hookY n fa fn ex).obs s := by
  have e : g = s.heap.get? := funext h
  rw [e] <;> rfl
section
variable {fa : List Fa} {fn : List DefY} {ex : PySem.W.Frag → Bool} {K : PySem.W.Frag}
theorem SaysY.three (c : SaysY fa fn ex K) : (fa.all fun f => f.ok K) = true ∧ (fn.all fun d => d.ok K) = true ∧ ex K = true := by
  have c1 := ba (show ((fa.all fun f => f.ok K) && ((fn.all fun d => d.ok K) && ex K)) = true from congrArg (fun z : AlD => z.1) c)
  obtain ⟨h2, h3⟩ := ba c1.2
  exact ⟨c1.1, h2, h3⟩
theorem SaysY.fact (c : SaysY fa fn ex K) (i : Nat) {f : Fa} (h : fa[i]? = some f := by rfl) : f.ok K = true := List.all_eq_true.mp c.three.1 f (List.mem_of_getElem? h)
theorem SaysY.def_ (c : SaysY fa fn ex K) (i : Nat) {d : DefY} (h : fn[i]? = some d := by rfl) : ∃ fd, FunD K d.name d.qual d.params d.body d.scope (d.dvs K) [] (d.at_.ad K) fd := by
  have e : fn.map (fun d => fnY K (d.at_.ad K)) = fn.map DefY.val := congrArg (fun z : AlD => z.2) c
  have e2 : (fn.map fun d => fnY K (d.at_.ad K))[i]? = (fn.map DefY.val)[i]? := by rw [e]
  rw [List.getElem?_map, List.getElem?_map, h] at e2
  exact DefY.funD (Option.some.inj e2) (List.all_eq_true.mp c.three.2.1 d (List.mem_of_getElem? h))
end
/-! ### all that the walks lean on -/
structure TY (fa : List Fa) (fn : List DefY) (ex : PySem.W.Frag → Bool) (K : PySem.W.Frag) (mg : Str → Option Value) : Prop where
  c : SaysY fa fn ex K
  glo : ∀ (i : Nat) (x : Str), fa[i]? = some (.glo x) → mg x = some (.ref (ga K x))
  fre : ∀ (i : Nat) (x : Str), fa[i]? = some (.free x) → mg x = none
  cin : ∀ (i : Nat) (x : Str) (z : Int), fa[i]? = some (.int x z) → ∃ t, mg x = some (.int z t)
  cst : ∀ (i : Nat) (x z : Str), fa[i]? = some (.str x z) → ∃ t, mg x = some (.str z t)
theorem ty_mk {fa : List Fa} {fn : List DefY} {ex : PySem.W.Frag → Bool} {K : PySem.W.Frag} {h : Heap} {mg : Str → Option Value} (X : K.In h) (G : h.Ns mainGlobals mg) (c : SaysY fa fn ex K) : TY fa fn ex K mg :=
  ⟨c, fun i x e => glo_ok X G (c.fact i e), fun i x e => free_ok X G (c.fact i e), fun i x z e => int_ok X G (c.fact i e), fun i x z e => str_ok X G (c.fact i e)⟩
section
variable {fa : List Fa} {fn : List DefY} {ex : PySem.W.Frag → Bool} {K : PySem.W.Frag} {mg : Str → Option Value}
theorem TY.g (T : TY fa fn ex K mg) (i : Nat) {x : Str} (h : fa[i]? = some (.glo x) := by rfl) : mg x = some (.ref (ga K x)) := T.glo i x h
theorem TY.f (T : TY fa fn ex K mg) (i : Nat) {x : Str} (h : fa[i]? = some (.free x) := by rfl) : mg x = none := T.fre i x h
theorem TY.d (T : TY fa fn ex K mg) (i : Nat) {d : DefY} (h : fn[i]? = some d := by rfl) : ∃ fd, FunD K d.name d.qual d.params d.body d.scope (d.dvs K) [] (d.at_.ad K) fd := T.c.def_ i h
theorem TY.k (T : TY fa fn ex K mg) (i : Nat) {d : DefY} (h : fn[i]? = some d := by rfl) : PySem.W.keepIn K (.ref (d.at_.ad K)) = true := by
  obtain ⟨fd, F⟩ := T.c.def_ i h
  exact F.kp
theorem TY.kg (T : TY fa fn ex K mg) (i : Nat) {x : Str} (h : fn[i]?.map DefY.at_ = some (.glo x) := by rfl) : PySem.W.keepIn K (.ref (ga K x)) = true := by
  cases e : fn[i]? with
  | none => rw [e] at h; cases h
  | some d =>
    rw [e] at h
    have h2 : d.at_ = .glo x := Option.some.inj h
    have h3 := T.k i e
    rw [h2] at h3
    exact h3
theorem TY.x (T : TY fa fn ex K mg) : ex K = true := T.c.three.2.2
end
section
variable {X : Cx} {fa : List Fa} {fn : List DefY} {ex : PySem.W.Frag → Bool}
theorem TY.cint (T : TY fa fn ex X.K X.mg) (i : Nat) {x : Str} {z : Int} {pos : Pos} (h : fa[i]? = some (.int x z) := by rfl) (hg : Gl X x := by rfl) (hd : (x == ("__debug__" : Str)) = false := by decide) : PE X (.Name x pos) (tC (.int z)) := by
  obtain ⟨t, e⟩ := T.cin i x z h
  exact pe_glob hg e ⟨t, rfl⟩ hd
theorem TY.cstr (T : TY fa fn ex X.K X.mg) (i : Nat) {x z : Str} {pos : Pos} (h : fa[i]? = some (.str x z) := by rfl) (hg : Gl X x := by rfl) (hd : (x == ("__debug__" : Str)) = false := by decide) : PE X (.Name x pos) (tC (.str z)) := by
  obtain ⟨t, e⟩ := T.cst i x z h
  exact pe_glob hg e ⟨t, rfl⟩ hd
end
/-! ### a def's promise -/
section
variable {P : Program} {w : World} {K : PySem.W.Frag} {mg : Str → Option Value} {base : Heap} {x qual : Str} {params : Arguments} {body : List Stmt} {scope : Scope} {f : Addr} {N ps : List Str} {k : Nat} {sp : Sp}
/-- the way in, by positional values; every parameter is given -/
theorem fnR_of (hF : ∃ fd, FunD K x qual params body scope [] [] f fd) (S : FnScope N ps scope) (len : ∀ vs H Q E, sp vs H Q E → vs.length = ps.length)
    (bnd : ∀ (kV doc pm : Value) (an : Option Addr) (cdv ct : Value) (us : List Value), us.length = ps.length → bindArgs (PySem.W.fnOf x qual params body scope .none kV doc pm an cdv ct) ⟨us, []⟩ = pure (ps.zip us))
    (hbody : ∀ (cdv : Value) (A : Around) (outer : List Env) (s : Shared) (H : Hp) (vs : List V) (Q : VK) (E : XK), Room k (A.deeper (envOfC qual scope s.heap.objs.size f cdv)) → sp vs H Q E →
      ∃ t, PSs (cxOf (L2.CX P w) P w K mg base N qual scope f cdv A outer s H E) body t ∧ t { nx := fun _ H' => Q .non H', rt := Q } (start N vs) H) : FnR P w K mg base (L2.CX P w) (k + 1) f sp := by
  obtain ⟨fd, F⟩ := hF
  exact ((F.ok S len hbody).raw (F.bindsN bnd) .nil).imp fun vs H Q E h => by rw [List.append_nil]; exact h
end
/-! ### classes with slots, read off K -/
def dB {α : Type} [DecidableEq α] (a b : α) : Bool := decide (a = b)
theorem dB_ok {α : Type} [DecidableEq α] {a b : α} (h : dB a b = true) : a = b := of_decide_eq_true h
def sclsB (K : PySem.W.Frag) (C : Addr) : Bool := PySem.W.plainGet K C Str.empty && (PySem.W.isClsIn K C && (PySem.W.plainOver K C && eqO (PySem.W.findIn K (.ref C) "__setattr__") (some (some (.builtin "object.__setattr__")))))
theorem sclsB_ok {K : PySem.W.Frag} {C : Addr} (h : sclsB K C = true) : SlX.SCls K C := by
  obtain ⟨h1, h⟩ := ba h
  obtain ⟨h2, h⟩ := ba h
  obtain ⟨h3, h4⟩ := ba h
  exact ⟨h1, h2, h3, eqO_ok h4⟩
def sisiB (K : PySem.W.Frag) (C : Addr) : Bool := eqO (PySem.W.findIn K (.ref C) "__class__") (some (some (.builtin "object.__class__"))) && (eqO (PySem.W.specialIn K (.builtin "object.__class__") "__get__") (some (some (.builtin "getset_descriptor.__get__"))) &&
  (dB (PySem.W.takesIn K (.builtin "object.__class__")) (some true) && dB (PySem.W.mroIn K C (.type "object")) (some true)))
theorem sisiB_ok {K : PySem.W.Frag} {C : Addr} (h : sisiB K C = true) : SlX.SIsi K C := by
  obtain ⟨h1, h⟩ := ba h
  obtain ⟨h2, h⟩ := ba h
  obtain ⟨h3, h4⟩ := ba h
  exact ⟨eqO_ok h1, eqO_ok h2, dB_ok h3, dB_ok h4⟩
def slotB (K : PySem.W.Frag) (C : Addr) (f : Str) (i : Nat) : Bool := eqO (PySem.W.findIn K (.ref C) f) (some (some (.ref (ma K C f)))) && (eqO (PySem.W.specialIn K (.ref (ma K C f)) "__get__") (some (some (.builtin "member_descriptor.__get__"))) &&
  (dB (PySem.W.takesIn K (.ref (ma K C f))) (some true) && (dB (PySem.W.typeIn K (.ref (ma K C f))) (some (.type "member_descriptor")) && dB (PySem.W.slotIn K (ma K C f) C) (some i))))
theorem slotB_ok {K : PySem.W.Frag} {C : Addr} {f : Str} {i : Nat} (h : slotB K C f i = true) (hi : i < 1000 := by decide) : SlX.Slot1 K C f (ma K C f) i := by
  obtain ⟨h1, h⟩ := ba h
  obtain ⟨h2, h⟩ := ba h
  obtain ⟨h3, h⟩ := ba h
  obtain ⟨h4, h5⟩ := ba h
  exact ⟨eqO_ok h1, eqO_ok h2, dB_ok h3, dB_ok h4, dB_ok h5, hi⟩
/-- a property, its getter within its record -/
structure PropSl (K : PySem.W.Frag) (C : Addr) (f : Str) (p g : Addr) : Prop where
  at_ : PySem.W.findIn K (.ref C) f = some (some (.ref p))
  get : PySem.W.specialIn K (.ref p) "__get__" = some (some (.builtin "property.__get__"))
  tk : PySem.W.takesIn K (.ref p) = some true
  rc : ∃ rest, PySem.W.recIn K p "property" = some (.ref g :: rest)
def propB (K : PySem.W.Frag) (C : Addr) (f : Str) : Bool := eqO (PySem.W.findIn K (.ref C) f) (some (some (.ref (ma K C f)))) && (eqO (PySem.W.specialIn K (.ref (ma K C f)) "__get__") (some (some (.builtin "property.__get__"))) &&
  (dB (PySem.W.takesIn K (.ref (ma K C f))) (some true) && (match PySem.W.recIn K (ma K C f) "property" with | some (.ref _ :: _) => true | _ => false)))
theorem propB_ok {K : PySem.W.Frag} {C : Addr} {f : Str} (h : propB K C f = true) : PropSl K C f (ma K C f) (recFn K (ma K C f) "property") := by
  obtain ⟨h1, h⟩ := ba h
  obtain ⟨h2, h⟩ := ba h
  obtain ⟨h3, h4⟩ := ba h
  refine ⟨eqO_ok h1, eqO_ok h2, dB_ok h3, ?_⟩
  unfold recFn
  split at h4
  · rename_i g rest e
    rw [e]
    exact ⟨rest, rfl⟩
  · cases h4
def methB (K : PySem.W.Frag) (C : Addr) (m : Str) : Bool := eqO (PySem.W.findIn K (.ref C) m) (some (some (.ref (ma K C m)))) && (PySem.W.isFn K (.ref (ma K C m)) && PySem.W.keepIn K (.ref (ma K C m)))
theorem methB_ok {K : PySem.W.Frag} {C : Addr} {m : Str} (h : methB K C m = true) : Meth K C m (ma K C m) := by
  obtain ⟨h1, h⟩ := ba h
  obtain ⟨h2, h3⟩ := ba h
  exact ⟨eqO_ok h1, h2, h3⟩
def mkB (K : PySem.W.Frag) (C : Addr) : Bool := PySem.W.makesIn K C && (eqO (PySem.W.findIn K (.ref C) "__init__") (some (some (.ref (ma K C "__init__")))) && (PySem.W.isFn K (.ref (ma K C "__init__")) && PySem.W.keepIn K (.ref C)))
theorem mkB_ok {K : PySem.W.Frag} {C : Addr} (h : mkB K C = true) : Mk K C (ma K C "__init__") := by
  obtain ⟨h1, h⟩ := ba h
  obtain ⟨h2, h⟩ := ba h
  obtain ⟨h3, h4⟩ := ba h
  exact ⟨h1, eqO_ok h2, h3, h4⟩
def ownOpB (K : PySem.W.Frag) (C : Addr) (nm : String) : Bool := PySem.W.selfFirst K C && (eqO (PySem.W.findIn K (.ref C) (PySem.dunder nm)) (some (some (.ref (ma K C (PySem.dunder nm))))) && (PySem.W.isFn K (.ref (ma K C (PySem.dunder nm))) &&
  (eqO (PySem.W.findIn K (.ref C) (dunderR nm)) (some none) && ((PySem.W.findIn K (.type "int") (PySem.dunder nm)).isSome && ((PySem.W.findIn K (.type "int") (dunderR nm)).isSome && dB (PySem.W.subIn K (.type "int") (.ref C)) (some false))))))
theorem ownOpB_ok {K : PySem.W.Frag} {C : Addr} {nm : String} (h : ownOpB K C nm = true) : OwnOp K C nm (ma K C (PySem.dunder nm)) := by
  obtain ⟨h1, h⟩ := ba h
  obtain ⟨h2, h⟩ := ba h
  obtain ⟨h3, h⟩ := ba h
  obtain ⟨h4, h⟩ := ba h
  obtain ⟨h5, h⟩ := ba h
  obtain ⟨h6, h7⟩ := ba h
  exact ⟨h1, eqO_ok h2, h3, eqO_ok h4, Option.isSome_iff_exists.mp h5, Option.isSome_iff_exists.mp h6, dB_ok h7⟩
end Wl
set_option Elab.async false
set_option linter.all false
set_option maxRecDepth 100000
set_option maxHeartbeats 4000000
/-! Wl, part E: the exceptions: an own base over ValueError, classes under it whose __init__ calls the base's. -/
namespace Wl
open PySem PySem.Spec PyProof.Rows L2 He
/-! ### the classes, read off K -/
def oexB0 (K : PySem.W.Frag) (C : Addr) : Bool := match K.lookup C with
  | some ⟨.type "type", _, .cls cd, sl⟩ => (match cd.mro, sl.toList with
    | .ref C' :: bm, [_, _, _, _, some (.builtin n), _] => C' == C && n == "ValueError.__new__" && !cd.hasDel && PySem.HandSPX.refsVE bm && cd.hasDict
    | _, _ => false)
  | _ => false
theorem oexB0_ok {K : PySem.W.Frag} {C : Addr} (q : oexB0 K C = true) : ∃ nm qn N bs bm sn sub ab col dd k0 k1 k2 k3 k5, K.lookup C = some (excClassObj nm qn C N bs bm true sn sub ab col dd k0 k1 k2 k3 k5 "ValueError.__new__") ∧ PySem.HandSPX.refsVE bm = true := by
  unfold oexB0 at q
  split at q
  · rename_i dd cd sl ho
    split at q
    · rename_i C' bm k0 k1 k2 k3 n k5 hm hs
      simp only [Bool.and_eq_true, beq_iff_eq, Bool.not_eq_true'] at q
      obtain ⟨⟨⟨⟨rfl, rfl⟩, hdel⟩, ht⟩, hd⟩ := q
      obtain ⟨nm, bs, mro, ns, qn, hd', sn, sub, ab, col, del⟩ := cd
      dsimp only at hm hdel hd
      subst hm hdel hd
      have hsl : sl = #[k0, k1, k2, k3, some (.builtin "ValueError.__new__"), k5] := by
        obtain ⟨l⟩ := sl
        simp only at hs
        rw [hs]
      subst hsl
      exact ⟨nm, qn, ns, bs, bm, sn, sub, ab, col, dd, k0, k1, k2, k3, k5, ho, ht⟩
    · cases q
  · cases q
def oexB (K : PySem.W.Frag) (C : Addr) : Bool := oexB0 K C && (eqO (PySem.W.findIn K (.ref C) "__setattr__") (some (some (.builtin "object.__setattr__"))) && (dB (PySem.W.subIn K (.ref C) (.type "BaseException")) (some true) && (dB (PySem.W.typeIn K (.ref C)) (some (.type "type")) && PySem.W.keepIn K (.ref C))))
theorem oexB_ok {K : PySem.W.Frag} {C : Addr} (h : oexB K C = true) : OexC K C := by
  obtain ⟨h1, h⟩ := ba h
  obtain ⟨h2, h⟩ := ba h
  obtain ⟨h3, h⟩ := ba h
  obtain ⟨h4, h5⟩ := ba h
  exact ⟨oexB0_ok h1, eqO_ok h2, dB_ok h3, dB_ok h4, h5⟩
/-- the own __init__ of a class -/
structure OwnInit (K : PySem.W.Frag) (C f : Addr) : Prop where
  at_ : PySem.W.findIn K (.ref C) "__init__" = some (some (.ref f))
  ty : PySem.W.typeIn K (.ref f) = some (.type "function")
def ownInitB (K : PySem.W.Frag) (C : Addr) : Bool := eqO (PySem.W.findIn K (.ref C) "__init__") (some (some (.ref (ma K C "__init__")))) && dB (PySem.W.typeIn K (.ref (ma K C "__init__"))) (some (.type "function"))
theorem ownInitB_ok {K : PySem.W.Frag} {C : Addr} (h : ownInitB K C = true) : OwnInit K C (ma K C "__init__") := by
  obtain ⟨h1, h2⟩ := ba h
  exact ⟨eqO_ok h1, dB_ok h2⟩
/-- B.__init__ is ValueError's -/
structure BaseInit (K : PySem.W.Frag) (B : Addr) : Prop where
  rd : PySem.W.readsIn K B (.type "type") = true
  ga : PySem.W.specialIn K (.ref B) "__getattribute__" = some (some (.builtin "type.__getattribute__"))
  at_ : PySem.W.findCls K (.ref B) (.type "type") "__init__" = some (.val (.builtin "ValueError.__init__"))
def isValB (o : Option PySem.W.CFound) (v : Value) : Bool := match o with
  | some (.val u) => decide (u = v)
  | _ => false
theorem isValB_ok {o : Option PySem.W.CFound} {v : Value} (h : isValB o v = true) : o = some (.val v) := by
  unfold isValB at h
  split at h
  · rw [of_decide_eq_true h]
  · cases h
def baseInitB (K : PySem.W.Frag) (B : Addr) : Bool := PySem.W.readsIn K B (.type "type") && (eqO (PySem.W.specialIn K (.ref B) "__getattribute__") (some (some (.builtin "type.__getattribute__"))) && isValB (PySem.W.findCls K (.ref B) (.type "type") "__init__") (.builtin "ValueError.__init__"))
theorem baseInitB_ok {K : PySem.W.Frag} {B : Addr} (h : baseInitB K B = true) : BaseInit K B := by
  obtain ⟨h1, h⟩ := ba h
  obtain ⟨h2, h3⟩ := ba h
  exact ⟨h1, eqO_ok h2, isValB_ok h3⟩
/-! ### B.__init__(self, ..) -/
section
variable {X : Cx} {e : Expr} {es : List Expr} {ta : TA} {x : Str} {B : Addr} {p1 p2 pos : Pos}
theorem pe_clsinit {pl : Sem Bool} (b : BaseInit X.K B) (hg : Gl X x) (hm : X.mg x = some (.ref B)) (ha : PA X (e :: es) ta)
    (hc : eval (.Call (.Attribute (.Name x p1) "__init__" p2) (e :: es) [] pos) X.env = (do
      let ov ← eval (.Name x p1) X.env
      standAt p2.atName
      let (f, first) ← holding [ov] (getMethod ov "__init__" pl)
      callWith pos f first (backTo pos (starEach (e :: es) X.env)) (backToKw pos (keywordEach [] X.env))) := by rfl)
    (hdb : (x == ("__debug__" : Str)) = false := by decide) (he : starEach (e :: es) X.env = (false, eval e X.env) :: starEach es X.env := by rfl) (hpl : (backTo pos (starEach es X.env)).any (·.1) = false := by rfl) :
    PE X (.Call (.Attribute (.Name x p1) "__init__" p2) (e :: es) [] pos) (tVeI X.K ta) := by
  refine ⟨fun pins s σ H Q I h => ?_⟩
  refine PySem.W.methodCall_KW (ld_glob I hg hm ?_ hdb) hc
  refine PySem.W.method_cls I.kIn b.ga (PySem.W.cls_value I.kIn b.rd b.at_ (by decide +kernel) ?_)
  show wpAny _ _ (callWith pos (Value.builtin "ValueError.__init__") [] (backTo pos (starEach (e :: es) X.env)) []) _ _ _
  refine PyProof.Rows.callWith_method1 (thn (ha.run pos pins _ σ H _ (I.tok _) h) fun us s1 ⟨vs, H1, I1, r1, a, C, ws, ev, hl, T, ea, q⟩ => ?_) he hpl
  subst ev
  cases r1 with
  | @cons _ u0 _ ur ra rw' =>
    obtain rfl : u0 = Value.ref a := ra
    have hlen : ur.length ≤ sizeLine := by
      rw [← Paired.length rw', sizeLine_eq]
      omega
    exact oinit_ok T I1 ea hlen fun s' J => ⟨.non, H1, J, rfl, q⟩
end
/-! ### C(..) of such a class, to be raised -/
section
variable {X : Cx} {e : Expr} {es : List Expr} {ta : TA} {p pos : Pos}
theorem mk_endN {pins : List (Addr × Obj)} {σ : L2.St} {H1 H2 : Hp} {Q : XK} {hp hp2 h2 : Heap} {g1 g2 : Array GenState} {d1 d2 : Drawn} {t1 t2 : Nat} {os1 os2 : OsState} {a C : Addr} (T : Raises X (.ref C)) (I1 : Inv X pins σ H1 ⟨hp, g1, d1, t1, os1⟩)
    (ha : hp.objs.size ≤ a) (k : ∀ b o, hp.get? b = some o → hp2.get? b = some o) (un : Un (frs X.stack) [] (upd H1 a (exo a C none)) H2 hp2 h2) (hok : HOk X.prog X.w H2 h2) (ho : os2 = os1) (hb : AllBare g2)
    (ea : H2 a = some (exo a C none)) (q : Q (.ref C) none (del H2 a)) : MkP X pins σ Q (.ref a) ⟨h2, g2, d2, t2, os2⟩ := by
  obtain ⟨t0, hoe⟩ := exo_at hok ea
  have hn : H1 a = none := I1.hok.fresh ha
  obtain ⟨G, g1', g2'⟩ := restrict h2 fun b => decide (b ≠ a)
  have gk : ∀ b, b ≠ a → G.get? b = h2.get? b := fun b hb => g1' b (decide_eq_true hb)
  have ge : G.get? a = none := g2' a (by simp)
  have nha : ∀ {b : Addr} {o : Obj}, hp.get? b = some o → b ≠ a := fun {b o} z => Nat.ne_of_lt (Nat.lt_of_lt_of_le (Heap.lt_size z) ha)
  have up : ∀ {b : Addr}, b ≠ a → H1 b = none → upd H1 a (exo a C none) b = none := fun {b} hb n => by rw [upd_ne hb]; exact n
  have U : Un (frs X.stack) [] H1 (del H2 a) hp G := {
    keep := fun b o z n hf hx => by
      rw [gk b (nha z)]
      exact un.keep b o (k b o z) (up (nha z) n) hf hx
    slot := fun b o z n hf hx => by
      rw [gk b (nha z)]
      exact un.slot b o (k b o z) (up (nha z) n) hf hx
    free := fun b o z n hx => by
      rw [del_ne (nha z)]
      exact un.free b o (k b o z) (up (nha z) n) hx
    there := fun b o z hx => by
      rw [gk b (nha z)]
      exact un.there b o (k b o z) hx
    tups := fun b xs z => by
      rw [del_ne (ne_of_none z hn)]
      exact un.tups b xs (by rw [upd_ne (ne_of_none z hn)]; exact z)
    frzs := fun b o v z => by
      rw [del_ne (ne_of_none z hn)]
      exact un.frzs b o v (by rw [upd_ne (ne_of_none z hn)]; exact z)
    tbls := fun b ps z => by
      rw [del_ne (ne_of_none z hn)]
      exact un.tbls b ps (by rw [upd_ne (ne_of_none z hn)]; exact z) }
  have hok3 : HOk X.prog X.w (del H2 a) G := fun b o z => by
    have hba : b ≠ a := fun e => by
      rw [e, del_same] at z
      cases z
    rw [del_ne hba] at z
    have noa : ∀ {c : Addr}, H2 c = some (.own b) → c ≠ a := fun {c} hc => at_ne ea hc exo_own
    exact (hok b o z).stay (fun c v hc y => by
        have hca : c ≠ a := by
          rcases hc with hc | hc
          · rw [hc]
            exact hba
          · exact noa hc
        rw [gk c hca]
        exact y)
      (fun c hc => by rw [del_ne (noa hc)]; exact hc) (fun c xs hc => by rw [del_ne (at_ne ea hc exo_tup)]; exact hc)
  have J : Inv X pins σ (del H2 a) ⟨G, g2, d2, t2, os2⟩ := I1.call' (ch := []) ho U hok3 hb (fun b z => absurd z (by simp))
  have kG : ∀ b o, G.get? b = some o → h2.get? b = some o := fun b o z => by
    by_cases hba : b = a
    · rw [hba, ge] at z
      cases z
    · exact (gk b hba).symm.trans z
  exact ⟨a, _, _, ⟨G, g2, d2, t2, os2⟩, _, .ref C, none, rfl, J, kG, ge, hoe, ⟨rfl, rfl⟩, rfl, rfl, del_same, rfl, hb, T, q⟩
/-- what is asked of the new exception at a, its class's __init__ done: with a dict, or none -/
def MkEnd (C a : Addr) (H1 : Hp) (Q : XK) : VK := fun v H2 => v = .non ∧ ((∃ (d : Addr) (fs : List (Str × V)), H2 a = some (exo a C (some d)) ∧ H2 d = some (exd d fs) ∧ H1 d = none ∧ Q (.ref C) (some d) (upd (del H2 a) d (.xd fs))) ∨ (H2 a = some (exo a C none) ∧ Q (.ref C) none (del H2 a)))
def tMkE (C : Addr) (sp : Sp) (ta : TA) : L2.St → Hp → XK → Prop := fun σ H Q => ta σ H fun vs H1 => vs.length ≤ 1000 ∧ ∀ a, H1 a = none → sp (.ref a :: vs) (upd H1 a (exo a C none)) (MkEnd C a H1 Q) E0
theorem run_mkE {CX : CXT} {C fI : Addr} {k : Nat} {sp : Sp} {pins : List (Addr × Obj)} {σ : L2.St} {H1 : Hp} {s1 : Shared} {Q : XK} {vs : List V} {us : List Value} (T : OexC X.K C) (O : OwnInit X.K C fI) (F1 : FnR X.prog X.w X.K X.mg X.base CX k fI sp) (hr : Room (k + 1) X.A) (hx : Passes CX X E0)
    (I1 : Inv X pins σ H1 s1) (r1 : Vals vs us) (hz : vs.length ≤ 1000) (q1 : ∀ a, H1 a = none → sp (.ref a :: vs) (upd H1 a (exo a C none)) (MkEnd C a H1 Q) E0) : wpAny (model X.prog X.w) X.A (call (.ref C) us) (MkP X pins σ Q) X.xe s1 := by
  obtain ⟨nm, q, N, bs, bm, sn, sub, ab, col, dd, k0, k1, k2, k3, k5, hC, hbm⟩ := T.cls
  obtain ⟨hp, g, dr, tk, os⟩ := s1
  have hsz : hp.objs.size ≤ hp.objs.size + 1 := Nat.le_succ _
  have hn : H1 (hp.objs.size + 1) = none := I1.hok.fresh hsz
  have hq := q1 (hp.objs.size + 1) hn
  have kk : ∀ b o, hp.get? b = some o → ((hp.push (PySem.W.kdv_tup us)).push (PySem.HandSPX.excO C hp.objs.size)).get? b = some o := fun b o e => Heap.get?_push_of_some _ (Heap.get?_push_of_some _ e)
  have hget : ((hp.push (PySem.W.kdv_tup us)).push (PySem.HandSPX.excO C hp.objs.size)).get? (hp.objs.size + 1) = some (PySem.HandSPX.excO C hp.objs.size) := by heap_get
  have I2 : Inv X pins σ (upd H1 (hp.objs.size + 1) (exo (hp.objs.size + 1) C none)) ⟨(hp.push (PySem.W.kdv_tup us)).push (PySem.HandSPX.excO C hp.objs.size), g, dr, tk, os⟩ :=
    I1.laid (t' := tk) (a := hp.objs.size + 1) (o := exo (hp.objs.size + 1) C none) (h' := (hp.push (PySem.W.kdv_tup us)).push (PySem.HandSPX.excO C hp.objs.size)) kk hsz (exo_ok hget)
  have r2 : Vals (V.ref (hp.objs.size + 1) :: vs) (Value.ref (hp.objs.size + 1) :: us) := .cons rfl r1
  have hus : us.length ≤ sizeLine := by
    rw [← Paired.length r1, sizeLine_eq]
    omega
  refine wpAny_call (PySem.HandSPX.call_own F.excBase_ValueError (fun Y => PySem.HandSPX.refsVE_contains Y bm hbm) (I1.kIn _ _ hC) (PySem.W.looks_findIn I1.kIn O.at_) (fun self => PySem.W.bind_fn I1.kIn self O.ty) hus
    (codeAny_mono (F1 _ X.stack _ _ (Value.ref (hp.objs.size + 1) :: us) (V.ref (hp.objs.size + 1) :: vs) _ E0 (hr.make C us []) (I2.env0.make C us []) r2 hq) fun r s' hq' => ?_))
  cases r with
  | error er => exact hx pins σ _ _ er s' I2 hq'
  | ok fl =>
    cases fl with
    | ret u =>
      obtain ⟨v, H2, os2, bare2, un2, hok2, rv, ev, q2⟩ := hq'
      subst ev
      obtain ⟨h2, g2, d2, t2, os'⟩ := s'
      rcases q2 with ⟨d, fs, ea, ed, hd1, q2⟩ | ⟨ea, q2⟩
      · exact ⟨rv, mk_end (raises_own T.exC T.tyC) I1 hsz kk un2 hok2 os2 bare2 ea ed hd1 q2⟩
      · exact ⟨rv, mk_endN (raises_own T.exC T.tyC) I1 hsz kk un2 hok2 os2 bare2 ea q2⟩
    | next => exact False.elim hq'
    | brk => exact False.elim hq'
    | cont => exact False.elim hq'
theorem pmk_exc {CX : CXT} {x : Str} {C fI : Addr} {k : Nat} {sp : Sp} (T : OexC X.K C) (O : OwnInit X.K C fI) (F1 : FnR X.prog X.w X.K X.mg X.base CX k fI sp) (hr : Room (k + 1) X.A) (hx : Passes CX X E0) (hg : Gl X x) (hm : X.mg x = some (.ref C)) (ha : PA X (e :: es) ta)
    (hdb : (x == ("__debug__" : Str)) = false := by decide) (he : starEach (e :: es) X.env = (false, eval e X.env) :: starEach es X.env := by rfl) (hpl : (backTo pos (starEach es X.env)).any (·.1) = false := by rfl) :
    PMk X (.Call (.Name x p) (e :: es) [] pos) (tMkE C sp ta) := by
  intro pins s σ H Q I h
  refine wpAny_Call_Name_kw (ld_glob I hg hm ?_ hdb)
  refine PySem.W.callWith_K (h₀ := X.base) I.ok.mod.kin T.kC (thn (ha.run pos pins s σ H _ I h) fun us s1 ⟨vs, H1, I1, r1, hz, q1⟩ => ⟨I1.kIn, ?_⟩) he hpl
  exact run_mkE T O F1 hr hx I1 r1 hz q1
theorem pmk_exc0 {CX : CXT} {x : Str} {C fI : Addr} {k : Nat} {sp : Sp} (T : OexC X.K C) (O : OwnInit X.K C fI) (F1 : FnR X.prog X.w X.K X.mg X.base CX k fI sp) (hr : Room (k + 1) X.A) (hx : Passes CX X E0) (hg : Gl X x) (hm : X.mg x = some (.ref C))
    (hdb : (x == ("__debug__" : Str)) = false := by decide) : PMk X (.Call (.Name x p) [] [] pos) (tMkE C sp tNil) := by
  intro pins s σ H Q I h
  refine wpAny_Call_Name_kw (ld_glob I hg hm ?_ hdb)
  obtain ⟨hz, q1⟩ := h
  exact PySem.W.callWith_K0 I.kIn T.kC (run_mkE T O F1 hr hx I .nil hz q1)
end
/-! ### promises of the __init__s -/
/-- of a class with one field f -/
def spExc1 (C : Addr) (f : Str) : Sp := fun vs H Q _ => ∃ (a : Addr) (v : V), vs = [.ref a, v] ∧ H a = some (exo a C none) ∧ ∀ d, H d = none → d ≠ a → Q .non (upd (upd H d (exd d [(f, v)])) a (exo a C (some d)))
/-- of a class without a field -/
def spExc0 (C : Addr) : Sp := fun vs H Q _ => ∃ (a : Addr), vs = [.ref a] ∧ H a = some (exo a C none) ∧ Q .non H
/-- the reading of raise C(v) -/
theorem rd_exc1 {C : Addr} {f : Str} {H1 : Hp} {Q : XK} {v : V} (k : ∀ d H', Same H1 H' → H1 d = none → H' d = some (.xd [(f, v)]) → Q (.ref C) (some d) H') : ∀ a, H1 a = none → spExc1 C f (.ref a :: [v]) (upd H1 a (exo a C none)) (MkEnd C a H1 Q) E0 := by
  intro a ha
  refine ⟨a, v, rfl, upd_same, fun d hd hda => ⟨rfl, .inl ⟨d, _, upd_same, by rw [upd_ne hda, upd_same], ?_, ?_⟩⟩⟩
  · rw [upd_ne hda] at hd; exact hd
  · have hd1 : H1 d = none := by rw [upd_ne hda] at hd; exact hd
    refine k d _ (fun b o e => ?_) hd1 upd_same
    have hb : b ≠ a := ne_of_none e ha
    have hbd : b ≠ d := ne_of_none e hd1
    rw [upd_ne hbd, del_ne hb, upd_ne hb, upd_ne hbd, upd_ne hb]
    exact e
theorem rd_exc0 {C : Addr} {H1 : Hp} {Q : XK} (k : ∀ H', Same H1 H' → Q (.ref C) none H') : ∀ a, H1 a = none → spExc0 C (.ref a :: []) (upd H1 a (exo a C none)) (MkEnd C a H1 Q) E0 := by
  intro a ha
  refine ⟨a, rfl, upd_same, rfl, .inr ⟨upd_same, k _ fun b o e => ?_⟩⟩
  have hb : b ≠ a := ne_of_none e ha
  rw [del_ne hb, upd_ne hb]
  exact e
end Wl
set_option Elab.async false
set_option linter.all false
set_option maxRecDepth 100000
set_option maxHeartbeats 4000000
/-! Wl, part B: isinstance beside a class with slots, repr of truths, properties, keywords; data that stays. -/
namespace Wl
open PySem PySem.Spec PyProof.Rows L2 He
section
variable {X : Cx} {R : Addr} {pins : List (Addr × Obj)} {σ : L2.St} {H : Hp} {s : Shared}
theorem kit_Y (cl : SlX.SCls X.K R) (isi : SlX.SIsi X.K R) {y : V} {u t : Value} (I : Inv X pins σ H s) (ry : RelV y u) (h : TyY X.K R y H t) : ∃ P : Heap → Prop, PySem.W.KitX X.K u t P ∧ P s.heap ∧ u ≠ .builtin "__main__.__loader__#opaque" := by
  rcases h with h | ⟨rfl, b, dy, ws, rfl, hb⟩
  · exact kit_of I ry h
  · cases (show u = Value.ref b from ry)
    obtain ⟨sl', od', _, J', _⟩ := SlX.slt_inst I hb
    exact ⟨_, OwX.kitx_slt cl.ic (cl.get _) isi.ca isi.cn isi.ct isi.cm, J', fun z => nomatch z⟩
/-- isinstance(x, c), x any value that is met -/
def rIsiY (K : PySem.W.Frag) (R : Addr) : List V → Hp → VK → Prop := fun xs H Q => ∃ (x c : V) (t u : Value) (b : Bool), xs = [x, c] ∧ ClsV c u ∧ TyY K R x H t ∧ PySem.W.kitOne K t u = some b ∧ Q (.bl b) H
theorem call_isiY (cl : SlX.SCls X.K R) (isi : SlX.SIsi X.K R) : CallR X (.builtin "isinstance") (rIsiY X.K R) := by
  intro pins s σ H xs us Q I r h
  obtain ⟨x, c, t, u, b, rfl, k, ty, e, q⟩ := h
  obtain ⟨u1, u2, rfl, r1, r2⟩ := vals2 r
  have e2 := k.eq r2
  subst e2
  obtain ⟨P, Z, p, hx⟩ := kit_Y cl isi I r1 ty
  exact PySem.W.kia_one Z I.kIn p e hx fun tk => ⟨.bl b, H, I.tok tk, rfl, q⟩
/-- isinstance(x, (c1, c2, ..)), the tuple just laid -/
def rIsiTY (K : PySem.W.Frag) (R : Addr) : List V → Hp → VK → Prop := fun xs H Q => ∃ (x : V) (tp : Addr) (cs : List V) (t : Value) (us : List Value) (b : Bool), xs = [x, .ref tp] ∧ H tp = some (.tup cs) ∧ Paired ClsV cs us ∧ TyY K R x H t ∧ PySem.W.kitAny K t us = some b ∧ Q (.bl b) H
theorem call_isiTY (cl : SlX.SCls X.K R) (isi : SlX.SIsi X.K R) : CallR X (.builtin "isinstance") (rIsiTY X.K R) := by
  intro pins s σ H xs us Q I r h
  obtain ⟨x, tp, cs, t, ws, b, rfl, hT, k, ty, e, q⟩ := h
  obtain ⟨u1, u2, rfl, r1, r2⟩ := vals2 r
  cases (show u2 = Value.ref tp from r2)
  obtain ⟨P, Z, p, hx⟩ := kit_Y cl isi I r1 ty
  obtain ⟨_, its, rv, o, h1, h2, n, h3⟩ := (show ObjOk X.prog X.w H s.heap tp (.tup cs) from I.hok tp _ hT)
  have e3 := ClsV.all k rv
  subst e3
  obtain ⟨oc, od, dt, sl⟩ := o
  simp only at h2 h3
  subst h2 h3
  exact PySem.W.kia_tup Z I.kIn p h1 e hx fun tk => ⟨.bl b, H, I.tok tk, rfl, q⟩
theorem call_reprB : CallR X (.builtin "repr") (fun xs H Q => ∃ b, xs = [.bl b] ∧ Q (.str (if b then "True" else "False")) H) := by
  intro pins s σ H xs us Q I r h
  obtain ⟨b, rfl, q⟩ := h
  obtain ⟨u, rfl, r1⟩ := vals1 r
  cases (show u = Value.bool b from r1)
  exact PySem.P.repr_of_bool ⟨.str _, H, I.tok _, ⟨_, rfl⟩, q⟩
end
/-! ### what stays when the heap grows -/
theorem slt_same {H H' : Hp} {a C dx : Addr} {vs : List (Option V)} (s : Same H H') (h : SlX.Slt H a C dx vs) : SlX.Slt H' a C dx vs := by
  rcases h with ⟨h1, h2⟩ | ⟨h1, h2⟩
  · exact .inl ⟨s _ _ h1, h2⟩
  · exact .inr ⟨s _ _ h1, s _ _ h2⟩
theorem tyOf_same {K : PySem.W.Frag} {H H' : Hp} {v : V} {t : Value} (s : Same H H') (h : TyOf K H v t) : TyOf K H' v t := by
  cases h with
  | non => exact .non
  | bl x => exact .bl x
  | int i => exact .int i
  | str x => exact .str x
  | flt x => exact .flt x
  | lst e => exact .lst (s _ _ e)
  | frz e => exact .frz (s _ _ e)
  | tup e => exact .tup (s _ _ e)
  | dK e => exact .dK (s _ _ e)
  | dT e => exact .dT (s _ _ e)
  | ins e cl ha hn htk hm => exact .ins (s _ _ e) cl ha hn htk hm
theorem tyX_same {K : PySem.W.Frag} {H H' : Hp} {v : V} {t : Value} (s : Same H H') (h : TyX K H v t) : TyX K H' v t := by
  cases h with
  | base h => exact .base (tyOf_same s h)
  | byt b => exact .byt b
  | set e => exact .set (s _ _ e)
  | kList e c => exact .kList e c
  | kTuple e c => exact .kTuple e c
  | kDict e c => exact .kDict e c
  | fTuple e => exact .fTuple (s _ _ e)
  | fDict e => exact .fDict (s _ _ e)
theorem tyY_same {K : PySem.W.Frag} {R : Addr} {H H' : Hp} {v : V} {t : Value} (s : Same H H') (h : TyY K R v H t) : TyY K R v H' t := by
  rcases h with h | ⟨rfl, b, dy, ws, rfl, hb⟩
  · exact .inl (tyX_same s h)
  · exact .inr ⟨rfl, b, dy, ws, rfl, slt_same s hb⟩
theorem sqT_same {K : PySem.W.Frag} {H H' : Hp} {a : Addr} {xs : List V} (e : Same H H') (h : SqT K H a xs) : SqT K H' a xs := by
  rcases h with (h | ⟨o, h⟩) | h
  · exact .inl (.inl (e _ _ h))
  · exact .inl (.inr ⟨o, e _ _ h⟩)
  · exact .inr h
mutual
theorem dp_same {K : PySem.W.Frag} {H H' : Hp} (s : Same H H') : ∀ {v : V} {d : PyData}, Dp K H v d → Dp K H' v d
  | _, _, .non => .non
  | _, _, .bl b => .bl b
  | _, _, .int i => .int i
  | _, _, .str x => .str x
  | _, _, .lst h a => .lst (s.seq h) (dpAll_same s a)
  | _, _, .tup h a => .tup (sqT_same s h) (dpAll_same s a)
theorem dpAll_same {K : PySem.W.Frag} {H H' : Hp} (s : Same H H') : ∀ {vs : List V} {ds : List PyData}, DpAll K H vs ds → DpAll K H' vs ds
  | _, _, .nil => .nil
  | _, _, .cons h a => .cons (dp_same s h) (dpAll_same s a)
end
/-! ### a property's getter; C(..) by a positional promise; iteration over a list or a tuple -/
theorem cx_never {P : Program} {w : World} {outer : List Env} {H : Hp} {s : Shared} {e : Value} {s' : Shared} (h : L2.CX P w outer H s E0 e s') : False := by
  obtain ⟨_, _, _, _, _, _, _, _, _, _, _, _, z⟩ := h
  exact z
section
variable {X : Cx} {CX : CXT} {k n : Nat} {f C p g : Addr} {sp : Sp} {E : XK} {x : Str} {pp pos : Pos} {e l : Expr} {es : List Expr} {ta tl : TE} {t : TA} {fn : Str} {tg : Expr}
theorem pe_prp (c : SlX.SCls X.K C) (hp : PropSl X.K C fn p g) (F : FnR X.prog X.w X.K X.mg X.base (L2.CX X.prog X.w) n g sp) (hr : Room (n + 1) X.A) (he : PE X e ta)
    (hb : attributeBase e fn X.env (eval e X.env) = eval e X.env := by rfl) : PE X (.Attribute e fn pos) (SlX.tPropSl C sp E0 ta) :=
  SlX.pe_propSl he c hp.at_ hp.get hp.tk hp.rc F hr (fun _ _ _ _ h => cx_never h) hb
def tMakeR (C : Addr) (sp : Sp) (E : XK) (t : TA) : TE := fun σ H Q => t σ H fun vs H1 => ∀ x dx, H1 x = none → H1 dx = none → dx ≠ x →
  sp (.ref x :: vs) (upd (upd H1 dx (.own x)) x (.ins C dx [])) (fun v H2 => v = .non ∧ Q (.ref x) H2) E
theorem run_makeR {pins : List (Addr × Obj)} {σ : L2.St} {H : Hp} {s : Shared} {Q : VK} {us : List Value} {vs : List V} (M : Mk X.K C f) (F : FnR X.prog X.w X.K X.mg X.base CX k f sp) (hr : Room (k + 1) X.A)
    (hx : Passes CX X E) (I : Inv X pins σ H s) (r : Vals vs us)
    (h : ∀ x dx, H x = none → H dx = none → dx ≠ x → sp (.ref x :: vs) (upd (upd H dx (.own x)) x (.ins C dx [])) (fun v H2 => v = .non ∧ Q (.ref x) H2) E) :
    wpAny (model X.prog X.w) X.A (call (.ref C) us) (EP X pins σ Q) X.xe s := by
  have hq := h (s.heap.objs.size + 1) s.heap.objs.size (I.hok.fresh (Nat.le_succ _)) (I.hok.fresh (Nat.le_refl _)) (Nat.ne_of_lt (Nat.lt_succ_self _))
  have I2 := Inv.made (C := C) I
  have r2 : Vals (V.ref (s.heap.objs.size + 1) :: vs) (Value.ref (s.heap.objs.size + 1) :: us) := .cons rfl r
  refine wpAny_call (make_map (f := f) I.kIn M.makes M.init (beq_iff_eq.mp M.fn) (codeAny_mono (F _ X.stack _ _ (Value.ref (s.heap.objs.size + 1) :: us) (V.ref (s.heap.objs.size + 1) :: vs) _ E (hr.make C us [])
    (I2.env0.make C us []) r2 hq) fun r s' hq' => ?_))
  cases r with
  | error e => exact hx pins σ _ _ e s' I2 hq'
  | ok fl =>
    cases fl with
    | ret u =>
      obtain ⟨v, H', I3, rv, ev, q3⟩ := I2.after hq'
      subst ev
      exact ⟨rv, ⟨V.ref (s.heap.objs.size + 1), H', I3, rfl, q3⟩⟩
    | next => exact False.elim hq'
    | brk => exact False.elim hq'
    | cont => exact False.elim hq'
theorem pe_makeR (M : Mk X.K C f) (F : FnR X.prog X.w X.K X.mg X.base CX k f sp) (hr : Room (k + 1) X.A) (hg : Gl X x) (hm : X.mg x = some (.ref C)) (hx : Passes CX X E)
    (ha : PA X (e :: es) t) (hdb : (x == ("__debug__" : Str)) = false := by decide) (he : starEach (e :: es) X.env = (false, eval e X.env) :: starEach es X.env := by rfl) (hpl : (backTo pos (starEach es X.env)).any (·.1) = false := by rfl) :
    PE X (.Call (.Name x pp) (e :: es) [] pos) (tMakeR C sp E t) := by
  refine ⟨fun pins s σ H Q I h => ?_⟩
  refine wpAny_Call_Name_kw (ld_glob I hg hm ?_ hdb)
  refine PySem.W.callWith_K (h₀ := X.base) I.ok.mod.kin M.kp (thn (ha.run pos pins s σ H _ I h) fun us s1 ⟨vs, H1, I1, r, q⟩ => ⟨I1.kIn, ?_⟩) he hpl
  exact run_makeR M F hr hx I1 r q
/-- C(e, ..), told by what is asked of the values -/
theorem pe_makeS {S : List V → Hp → VK → XK → Prop} (M : Mk X.K C f) (F : FnR X.prog X.w X.K X.mg X.base CX k f sp) (hr : Room (k + 1) X.A) (hg : Gl X x) (hm : X.mg x = some (.ref C)) (hx : Passes CX X E)
    (hS : ∀ vs H Q, S vs H Q E → ∀ x dx, H x = none → H dx = none → dx ≠ x → sp (.ref x :: vs) (upd (upd H dx (.own x)) x (.ins C dx [])) (fun v H2 => v = .non ∧ Q (.ref x) H2) E)
    (ha : PA X (e :: es) t) (hdb : (x == ("__debug__" : Str)) = false := by decide) (he : starEach (e :: es) X.env = (false, eval e X.env) :: starEach es X.env := by rfl) (hpl : (backTo pos (starEach es X.env)).any (·.1) = false := by rfl) :
    PE X (.Call (.Name x pp) (e :: es) [] pos) (tCallR S E t) := by
  refine ⟨fun pins s σ H Q I h => ?_⟩
  refine wpAny_Call_Name_kw (ld_glob I hg hm ?_ hdb)
  refine PySem.W.callWith_K (h₀ := X.base) I.ok.mod.kin M.kp (thn (ha.run pos pins s σ H _ I h) fun us s1 ⟨vs, H1, I1, r, q⟩ => ⟨I1.kIn, ?_⟩) he hpl
  exact run_makeR M F hr hx I1 r (hS _ _ _ q)
/-- what is walked is a list or a tuple -/
structure iSeq (K : PySem.W.Frag) (tl : TE) (σ : L2.St) (H : Hp) (R : It → Hp → Prop) : Prop where
  h : tl σ H fun x H1 => ∃ a, x = .ref a ∧ ((∃ xs, SqL K H1 a xs ∧ R (Itl K a) H1) ∨ ∃ xs, SqT K H1 a xs ∧ R (Itt K a) H1)
theorem pi_seq (hl : PE X l tl) : PI X tg l (iSeq X.K tl) := by
  refine ⟨fun pins s σ H R I ⟨h⟩ => ?_⟩
  refine thn (hl.run pins s σ H _ I h) fun v s1 ⟨x, H1, I1, r1, q1⟩ => ?_
  obtain ⟨a, e, q⟩ := q1
  subst e
  cases r1
  rcases q with ⟨xs, hq, q⟩ | ⟨xs, hq, q⟩
  · obtain ⟨its, rv, p, hz⟩ := I1.list hq
    refine wpAny_pyIter_list p.isList ?_
    refine ⟨s1.heap.objs.size, [s1.heap.objs.size], _, _, H1, rfl, I1.kept (t' := s1.toks) fun b o e => Heap.get?_push_of_some _ e, turn_list a _, ⟨_, Heap.get?_push_size _ rfl, rfl, rfl⟩, fun b hb => ?_, q⟩
    have e : b = s1.heap.objs.size := by simpa using hb
    subst e
    exact I1.fpOk (Nat.le_refl _) (I1.hok.fresh (Nat.le_refl _))
  · obtain ⟨its, rv, p, hz⟩ := I1.tuple hq
    refine wpAny_pyIter_tuple (show s1.heap.IsTuple a its.toArray from p) ?_
    refine ⟨s1.heap.objs.size, [s1.heap.objs.size], _, _, H1, rfl, I1.kept (t' := s1.toks) fun b o e => Heap.get?_push_of_some _ e, turn_tuple a _, ⟨_, Heap.get?_push_size _ rfl, rfl, rfl⟩, fun b hb => ?_, q⟩
    have e : b = s1.heap.objs.size := by simpa using hb
    subst e
    exact I1.fpOk (Nat.le_refl _) (I1.hok.fresh (Nat.le_refl _))
end
end Wl
set_option Elab.async false
set_option linter.all false
set_option maxRecDepth 100000
set_option maxHeartbeats 4000000
/-! Wl, part I: enumerate of a list or a tuple. -/
namespace Wl
open PySem PySem.Spec PyProof.Rows L2
section
open Builtin
theorem meets_enum1 {v : Value} {o : Obj} {H : Heap → Prop} (B : Begins v o H) :
    Meets (Builtin.«enumerate.__new__» ⟨[.type "enumerate", v], []⟩) (fun _ R s => H s.heap ∧
      R (.ok (.ret (.ref (s.heap.push o).objs.size))) { s with heap := (s.heap.push o).push { cls := .type "enumerate", data := .fields #[.none, .bool false, .ref s.heap.objs.size, rawInt 0, .none, .none] } }) :=
  .of_wp fun prog w A R s h => by
    obtain ⟨hp, g, d, tk, os⟩ := s; obtain ⟨h1, h⟩ := h
    have hsub := PySem.sub_enumerate
    have q1 : ∀ {A' : Around} {E : Value → Shared → Prop} {Q : Value → Shared → Prop}, Q (.ref hp.objs.size) ⟨hp.push o, g, d, tk, os⟩ → wpAny (model prog w) A' (pyIter v) Q E ⟨hp, g, d, tk, os⟩ :=
      fun q => B.iter prog w _ _ ⟨hp, g, d, tk, os⟩ _ h1 q
    wp_walk using q1
    refine wpAny_stack_any fun st => wpAny_pure ?_
    split
    · rename_i c _ _ _ _ _
      cases (c == Value.type "enumerate")
      · wp_walk using q1
        exact ⟨_, rfl, h⟩
      · wp_walk using q1
        exact ⟨_, rfl, h⟩
    · wp_walk using q1
      exact ⟨_, rfl, h⟩
variable {prog : Program} {w : World} {A : Around} {E : Value → Shared → Prop} {s : Shared}
theorem enum_begins1 {v : Value} {o : Obj} {H : Heap → Prop} {Q : Value → Shared → Prop} (B : Begins v o H) (h1 : H s.heap)
    (h : ∀ h', IsEnum h' (s.heap.objs.size + 1) s.heap.objs.size 0 .none → h'.get? s.heap.objs.size = some o → h'.objs.size = s.heap.objs.size + 2 →
      (∀ b o, s.heap.get? b = some o → h'.get? b = some o) → Q (.ref (s.heap.objs.size + 1)) { s with heap := h' }) :
    wpAny (model prog w) A (call (.type "enumerate") [v]) Q E s := by
  refine callType_new F.called_enumerate (by decide) (F.typeCall_enumerate_1 _) (F.newCall_enumerate_1 _) (fun obj => F.args_object_init_2 obj _) F.entry_enumerate_new
    (meets_enum1 B) ⟨h1, ?_⟩
  have hz : (s.heap.push o).objs.size = s.heap.objs.size + 1 := Heap.size_push ..
  show _ ∧ _
  rw [hz]
  have he : IsEnum ((s.heap.push o).push { cls := .type "enumerate", data := .fields #[.none, .bool false, .ref s.heap.objs.size, rawInt 0, .none, .none] }) (s.heap.objs.size + 1) s.heap.objs.size 0 .none := by
    have := Heap.get?_push_size (s.heap.push o) (o := { cls := .type "enumerate", data := .fields #[.none, .bool false, .ref s.heap.objs.size, rawInt 0, .none, .none] }) rfl
    rw [hz] at this; exact this
  refine ⟨⟨_, he, rfl⟩, h _ he (Heap.get?_push_of_some _ (Heap.get?_push_size _ B.free)) (by rw [Heap.size_push, hz]) fun b o x => Heap.get?_push_of_some _ (Heap.get?_push_of_some _ x)⟩
end
/-- the tuple at a, each item in a new pair -/
def ItE (K : PySem.W.Frag) (a : Addr) : It :=
  ⟨fun i H => ∃ (xs : List V) (x : V), SqT K H a xs ∧ xs[i]? = some x, fun i H v H' => ∃ T x, v = .ref T ∧ H T = none ∧ H' = upd H T (.tup [.int (i : Nat), x]) ∧ ∀ xs, SqT K H a xs → xs[i]? = some x, fun i H => ∃ xs : List V, SqT K H a xs ∧ xs.length = i⟩
theorem turn_enumT {P : Program} {w : World} {K : PySem.W.Frag} {elts : List Expr} {kk : Nat} {tpos : Pos} (a e it : Addr) :
    Turn P w K (.Tuple elts kk tpos) (ItE K a) [e, it] e (fun i h => (∃ old, IsEnum h e it ((i : Nat) : Int) old) ∧ h.IsTupleIter it a i ∧ e ≠ it ∧ a ≠ it ∧ e ≠ a) where
  mem := by simp
  obj := fun i h st b hb => by
    obtain ⟨⟨old, he⟩, ⟨o, ho, hc, hd⟩, _⟩ := st
    have e' : b = e ∨ b = it := by simpa using hb
    rcases e' with z | z
    · rw [z]; exact ⟨_, he, fun v q => nomatch q⟩
    · rw [z]; exact ⟨o, ho, fun v q => by rw [hd] at q; cases q⟩
  keep := fun i h h' st k => let ⟨⟨old, he⟩, hi, hne⟩ := st; ⟨⟨old, k e (by simp) _ he⟩, hi.at fun o q => k it (by simp) o q, hne⟩
  item := by
    intro X hP hw hK hc i pins s σ H E I hf st hg
    subst hP hw hK
    obtain ⟨⟨old, he⟩, hit, hne, hai, hea⟩ := st
    obtain ⟨xs, x, hq, hx⟩ := hg
    obtain ⟨its, rv, p, hz⟩ := I.tuple hq
    obtain ⟨u, hu, ru⟩ := rv.get hx
    have hel : e < s.heap.objs.size := Heap.lt_size he
    have hil : it < s.heap.objs.size := by obtain ⟨_, q, _⟩ := hit; exact Heap.lt_size q
    have hlt : i < its.toArray.size := by
      have := (List.getElem?_eq_some_iff.mp hu).1
      simpa using this
    have D := Draws.tuple (prog := X.prog) (w := X.w) (A := X.A.in1) (I.ok.hd hc) it a hai its.toArray
    refine wpAny_pyNext_enum_itemD D he ⟨hit, p⟩ hlt hne (by simp [hne, hea]) fun y h' tk hy ho hit' hT hsz hk => ?_
    have ey : y = u := by
      have h1 : its.toArray[i]? = some u := by simpa using hu
      have hy' : its.toArray[i]? = some y := hy
      rw [h1] at hy'; exact (Option.some.inj hy').symm
    subst ey
    refine ⟨_, rfl, wpAny_letOwnedTupleGo_enum (s := { s with heap := h', toks := tk + 1 }) ho fun h'' he' sb => ?_⟩
    have hT2 : h''.get? s.heap.objs.size = some { cls := .type "tuple", data := .seq #[.int i tk, y] } := (sb.2 _ (Nat.ne_of_gt hel)).trans hT
    have new : ObjOk X.prog X.w (upd H s.heap.objs.size (.tup [.int (i : Nat), x])) h'' s.heap.objs.size (.tup [.int (i : Nat), x]) :=
      ⟨by show 2 ≤ sizeLine; decide, [.int i tk, y], .cons ⟨_, rfl⟩ (.cons ru .nil), ⟨_, hT2, rfl, _, rfl⟩⟩
    have I1 : Inv X pins σ (upd H s.heap.objs.size (.tup [.int (i : Nat), x])) { s with heap := h'', toks := tk + 1 } :=
      I.turnedNew (ch := [e, it]) (fun b ob hb q => (sb.2 b (fun z => hb (by simp [z]))).trans (hk b ob (fun z => hb (by simp [z])) (fun z => hb (by simp [z])) q)) hf (Nat.le_refl _) new
    refine ⟨.ref s.heap.objs.size, _, I1, rfl, ⟨_, x, rfl, I.hok.fresh (Nat.le_refl _), rfl, fun ys hy => by rw [I.tuple_inj hy hq]; exact hx⟩, ⟨⟨y, ?_⟩, hit'.1.at fun o q => (sb.2 it (Ne.symm hne)).trans q, hne, hai, hea⟩, fun b hb => ?_⟩
    · have e1 : ((i + 1 : Nat) : Int) = (i : Int) + 1 := by omega
      rw [e1]; exact he'
    · have hb' : b < s.heap.objs.size := by
        have e' : b = e ∨ b = it := by simpa using hb
        rcases e' with z | z
        · rw [z]; exact hel
        · rw [z]; exact hil
      rw [upd_ne (Nat.ne_of_lt hb')]
      exact (hf b hb).1
  done := by
    intro X hP hw hK hc i pins s σ H E I hf st hg
    subst hP hw hK
    obtain ⟨⟨old, he⟩, hit, hne, hai, hea⟩ := st
    obtain ⟨xs, hq, hx⟩ := hg
    obtain ⟨its, rv, p, hz⟩ := I.tuple hq
    obtain ⟨f0, f1, f2, f3, f4, f5⟩ := hf it (by simp)
    have hl := rv.length
    have D := Draws.tuple (prog := X.prog) (w := X.w) (A := X.A.in1) (I.ok.hd hc) it a hai its.toArray
    have ei : i = its.toArray.size := by simp; omega
    exact wpAny_pyNext_enum_endD D he ⟨ei ▸ hit, p⟩ fun h' eb => ⟨rfl, I.turned (t' := s.toks) (fun b o hb q => eb b o hb q) f0 f1 f3 f4 f5⟩
  self := fun A i s Q E st h => let ⟨⟨_, he⟩, _⟩ := st; wpAny_pyIter_enum he h
structure iEnumS (K : PySem.W.Frag) (ta : TA) (σ : L2.St) (H : Hp) (R : It → Hp → Prop) : Prop where
  h : ta σ H fun vs H1 => ∃ a xs, vs = [.ref a] ∧ ((SqL K H1 a xs ∧ R (Ite K a) H1) ∨ (SqT K H1 a xs ∧ R (ItE K a) H1))
theorem pi_enumS {X : Cx} {e : Expr} {ta : TA} {p pos tpos : Pos} {elts : List Expr} {kk : Nat} (hg : Gl X "enumerate") (hm : X.mg "enumerate" = none) (ha : PA X [e] ta) (hs : starEach [e] X.env = [(false, eval e X.env)] := by rfl) :
    PI X (.Tuple elts kk tpos) (.Call (.Name "enumerate" p) [e] [] pos) (iEnumS X.K ta) := by
  refine ⟨fun pins s σ H R I ⟨h⟩ => ?_⟩
  refine Call_ (ld_blt I hg hm boot_enumerate (PyProof.Rows.callWith_type1 (thn (ha.run pos pins s σ H _ I h) fun us s1 ⟨vs, H1, I1, r1, q1⟩ => ?_) hs rfl))
  obtain ⟨a, xs, ex, q⟩ := q1
  subst ex
  cases r1 with
  | cons r rr =>
    cases rr
    cases r
    have fp : ∀ b ∈ [s1.heap.objs.size + 1, s1.heap.objs.size], FpOk X pins H1 b := fun b hb => by
      have e' : b = s1.heap.objs.size + 1 ∨ b = s1.heap.objs.size := by simpa using hb
      have hle : s1.heap.objs.size ≤ b := by
        rcases e' with z | z
        · rw [z]; exact Nat.le_add_right _ _
        · rw [z]; exact Nat.le_refl _
      exact I1.fpOk hle (I1.hok.fresh hle)
    rcases q with ⟨hq, q⟩ | ⟨hq, q⟩
    · obtain ⟨its, rv, p', hz⟩ := I1.list hq
      refine call_enumerate_list p'.isList fun h' he hit hsz hk => wpAny_pyIter_enum he ?_
      have I2 : Inv X pins σ H1 { s1 with heap := h' } := I1.kept (t' := s1.toks) hk
      exact ⟨s1.heap.objs.size + 1, [s1.heap.objs.size + 1, s1.heap.objs.size], _, _, H1, rfl, I2, turn_enum a (s1.heap.objs.size + 1) s1.heap.objs.size, ⟨⟨.none, he⟩, hit, Nat.succ_ne_self _⟩, fp, q⟩
    · obtain ⟨its, rv, p', hz⟩ := I1.tuple hq
      have hal : a < s1.heap.objs.size := p'.lt
      refine enum_begins1 (begins_tuple a its.toArray) p' fun h' he hit hsz hk => wpAny_pyIter_enum he ?_
      have I2 : Inv X pins σ H1 { s1 with heap := h' } := I1.kept (t' := s1.toks) hk
      exact ⟨s1.heap.objs.size + 1, [s1.heap.objs.size + 1, s1.heap.objs.size], _, _, H1, rfl, I2, turn_enumT a (s1.heap.objs.size + 1) s1.heap.objs.size,
        ⟨⟨.none, he⟩, ⟨_, hit, rfl, rfl⟩, Nat.succ_ne_self _, Nat.ne_of_lt hal, Nat.ne_of_gt (Nat.lt_succ_of_lt hal)⟩, fp, q⟩
theorem walk_enumT {K : PySem.W.Frag} {a : Addr} {xs : List V} : Walk (ItE K a) xs.length (fun H => SqT K H a xs) (YPair (fun i => some (.int (i : Nat))) (fun i => xs[i]?)) := by
  refine ⟨fun i _ hi q => ⟨xs, xs[i], q, by simp [hi]⟩, fun _ q => ⟨xs, q, rfl⟩, fun i H v H' _ q y => ?_⟩
  obtain ⟨T, x, h1, h2, h3, h4⟩ := y
  exact ⟨T, .int (i : Nat), x, h1, h2, h3, rfl, h4 xs q⟩
end Wl
set_option Elab.async false
set_option linter.all false
set_option maxRecDepth 100000
set_option maxHeartbeats 4000000
/-! Wl, part J: small rules, calls by keywords. -/
namespace Wl
open PySem PySem.Spec PyProof.Rows L2 He
theorem iteT {c A B : Prop} [Decidable c] (h : c) (k : A) : if c then A else B := by rw [if_pos h]; exact k
theorem iteF {c A B : Prop} [Decidable c] (h : ¬ c) (k : B) : if c then A else B := by rw [if_neg h]; exact k
theorem OpR.imp {X : Cx} {f : Value → Value → Sem Value} {r r' : R2} (h : OpR X f r) (k : ∀ x y H Q, r' x y H Q → r x y H Q) : OpR X f r' := fun pins s σ H x y v u Q I rx ry q => h pins s σ H x y v u Q I rx ry (k _ _ _ _ q)
/-- x is True, x is not True -/
theorem op_isT {X : Cx} : OpR X (compareOp .Is) (fun x y H Q => y = .bl true ∧ Q (.bl (decide (x = .bl true))) H) := by
  intro pins s σ H x y v u Q I rx ry h
  obtain ⟨rfl, q⟩ := h
  cases (show u = Value.bool true from ry)
  cases x with
  | non => cases (show v = Value.none from rx); exact wpAny_is_other rfl (fun z => nomatch z) ⟨.bl false, H, I, rfl, q⟩
  | bl b =>
    cases (show v = Value.bool b from rx)
    cases b with
    | true => exact wpAny_is_self rfl ⟨.bl true, H, I, rfl, q⟩
    | false => exact wpAny_is_other rfl (fun z => nomatch z) ⟨.bl false, H, I, rfl, q⟩
  | int i => obtain ⟨t, rfl⟩ := (show ∃ t, v = Value.int i t from rx); exact wpAny_is_other rfl (fun z => nomatch z) ⟨.bl false, H, I, rfl, q⟩
  | str i => obtain ⟨t, rfl⟩ := (show ∃ t, v = Value.str i t from rx); exact wpAny_is_other rfl (fun z => nomatch z) ⟨.bl false, H, I, rfl, q⟩
  | byt i => obtain ⟨t, rfl⟩ := (show ∃ t, v = Value.bytes i t from rx); exact wpAny_is_other rfl (fun z => nomatch z) ⟨.bl false, H, I, rfl, q⟩
  | flt i => obtain ⟨t, rfl⟩ := (show ∃ t, v = Value.float i t from rx); exact wpAny_is_other rfl (fun z => nomatch z) ⟨.bl false, H, I, rfl, q⟩
  | ref a => cases (show v = Value.ref a from rx); exact wpAny_is_other rfl (fun z => nomatch z) ⟨.bl false, H, I, rfl, q⟩
  | ty a => cases (show v = Value.type a from rx); exact wpAny_is_other rfl (fun z => nomatch z) ⟨.bl false, H, I, rfl, q⟩
theorem rd_neS {x y : V} {H : Hp} {Q : VK} (e : x = y) (h : scal x y = true) (q : Q (.bl false) H) : rNe x y H Q := by
  subst e
  refine ⟨h, ?_⟩
  simpa using q
theorem eqv_pair (a b c d : Int) : PyData.eqv (.tuple [.int a, .int b]) (.tuple [.int c, .int d]) = decide (a = c ∧ b = d) := by
  simp only [PyData.eqv, PyData.eqvAll]
  rw [Bool.eq_iff_iff]; simp
/-! ### a list or a tuple, walked in one way -/
def SeqO (o : HO) (xs : List V) : Prop := o = .lst xs ∨ o = .tup xs
theorem rd_seq {K : PySem.W.Frag} {R : It → Hp → Prop} {H : Hp} {v : V} {a : Addr} {o : HO} {xs : List V} (hv : v = .ref a) (ho : SeqO o xs) (h : H a = some o) (k : ∀ J, Walk J xs.length (fun H' => H' a = some o) (YAt xs) → R J H) :
    ∃ a, v = .ref a ∧ ((∃ xs, SqL K H a xs ∧ R (Itl K a) H) ∨ ∃ xs, SqT K H a xs ∧ R (Itt K a) H) := by
  rcases ho with rfl | rfl
  · exact ⟨a, hv, .inl ⟨xs, SqL.of h, k _ (walk_list.mono (fun H' e => SqL.of e) fun _ _ _ _ _ _ y => y)⟩⟩
  · exact ⟨a, hv, .inr ⟨xs, SqT.of h, k _ (walk_tup.mono (fun H' e => SqT.of e) fun _ _ _ _ _ _ y => y)⟩⟩
theorem rd_enum {K : PySem.W.Frag} {R : It → Hp → Prop} {H : Hp} {vs : List V} {a : Addr} {o : HO} {xs : List V} (hv : vs = [.ref a]) (ho : SeqO o xs) (h : H a = some o) (k : ∀ J, Walk J xs.length (fun H' => H' a = some o) (YPair (fun i => some (.int (i : Nat))) (fun i => xs[i]?)) → R J H) :
    ∃ a xs, vs = [.ref a] ∧ ((SqL K H a xs ∧ R (Ite K a) H) ∨ (SqT K H a xs ∧ R (ItE K a) H)) := by
  rcases ho with rfl | rfl
  · exact ⟨a, xs, hv, .inl ⟨SqL.of h, k _ (walk_enum.mono (fun H' e => SqL.of e) fun _ _ _ _ _ _ y => y)⟩⟩
  · exact ⟨a, xs, hv, .inr ⟨SqT.of h, k _ (walk_enumT.mono (fun H' e => SqT.of e) fun _ _ _ _ _ _ y => y)⟩⟩
theorem same_upd {H0 H : Hp} {D : Addr} {o : HO} (n : H0 D = none) (s : Same H0 H) : Same H0 (upd H D o) := fun b u e => by
  rw [upd_ne (ne_of_none e n)]; exact s b u e
theorem rd_seqV {K : PySem.W.Frag} {R : It → Hp → Prop} {H : Hp} {σ : L2.St} {n : Nat} {a : Addr} {o : HO} {xs : List V} (hv : σ[n]? = some (some (.ref a))) (ho : SeqO o xs) (h : H a = some o) (k : ∀ J, Walk J xs.length (fun H' => H' a = some o) (YAt xs) → R J H) : iSeq K (tVar n) σ H R :=
  ⟨⟨_, hv, rd_seq rfl ho h k⟩⟩
theorem rd_enumV {K : PySem.W.Frag} {R : It → Hp → Prop} {H : Hp} {σ : L2.St} {n : Nat} {a : Addr} {o : HO} {xs : List V} (hv : σ[n]? = some (some (.ref a))) (ho : SeqO o xs) (h : H a = some o) (k : ∀ J, Walk J xs.length (fun H' => H' a = some o) (YPair (fun i => some (.int (i : Nat))) (fun i => xs[i]?)) → R J H) : iEnumS K (tCons (tVar n) tNil) σ H R :=
  ⟨⟨_, hv, rd_enum rfl ho h k⟩⟩
theorem rd_ixT {K : PySem.W.Frag} {H : Hp} {Q : VK} {p : Addr} {xs : List V} {i : Int} {v : V} (h : H p = some (.tup xs)) (e : atI xs i = some v) (q : Q v H) : rIx K (.ref p) (.int i) H Q := .inr (.inl ⟨p, xs, i, v, rfl, rfl, SqT.of h, e, q⟩)
theorem rd_ixL {K : PySem.W.Frag} {H : Hp} {Q : VK} {p : Addr} {xs : List V} {i : Int} {v : V} (h : H p = some (.lst xs)) (e : atI xs i = some v) (q : Q v H) : rIx K (.ref p) (.int i) H Q := .inl ⟨p, xs, i, v, rfl, rfl, SqL.of h, e, q⟩
theorem rd_ixO {K : PySem.W.Frag} {H : Hp} {Q : VK} {p : Addr} {o : HO} {xs : List V} {i : Int} {v : V} (h : H p = some o) (ho : SeqO o xs) (e : atI xs i = some v) (q : Q v H) : rIx K (.ref p) (.int i) H Q := by
  rcases ho with rfl | rfl
  · exact rd_ixL h e q
  · exact rd_ixT h e q
theorem SeqO.sq {K : PySem.W.Frag} {H : Hp} {a : Addr} {o : HO} {xs : List V} (ho : SeqO o xs) (h : H a = some o) : SqL K H a xs ∨ SqT K H a xs := by
  rcases ho with rfl | rfl
  · exact .inl (SqL.of h)
  · exact .inr (SqT.of h)
/-- a def's promise, any way in -/
structure FnD (P : Program) (w : World) (K : PySem.W.Frag) (mg : Str → Option Value) (base : Heap) (k : Nat) (f : Addr) (ps : List Str) (sp : Sp) (x qual : Str) (params : Arguments) (body : List Stmt) (scope : Scope) : Prop where
  ex : ∃ fd, FunD K x qual params body scope [] [] f fd ∧ FnOk P w K mg base (L2.CX P w) k f fd ps sp
section
variable {P : Program} {w : World} {K : PySem.W.Frag} {mg : Str → Option Value} {base : Heap} {x qual : Str} {params : Arguments} {body : List Stmt} {scope : Scope} {f : Addr} {N ps : List Str} {k : Nat} {sp : Sp}
theorem fnD_of (hF : ∃ fd, FunD K x qual params body scope [] [] f fd) (S : FnScope N ps scope) (len : ∀ vs H Q E, sp vs H Q E → vs.length = ps.length)
    (hbody : ∀ (cdv : Value) (A : Around) (outer : List Env) (s : Shared) (H : Hp) (vs : List V) (Q : VK) (E : XK), Room k (A.deeper (envOfC qual scope s.heap.objs.size f cdv)) → sp vs H Q E →
      ∃ t, PSs (cxOf (L2.CX P w) P w K mg base N qual scope f cdv A outer s H E) body t ∧ t { nx := fun _ H' => Q .non H', rt := Q } (start N vs) H) : FnD P w K mg base (k + 1) f ps sp x qual params body scope := by
  obtain ⟨fd, F⟩ := hF
  exact ⟨fd, F, F.ok S len hbody⟩
theorem FnD.r (D : FnD P w K mg base k f ps sp x qual params body scope)
    (bnd : ∀ (kV doc pm : Value) (an : Option Addr) (cdv ct : Value) (us : List Value), us.length = ps.length → bindArgs (PySem.W.fnOf x qual params body scope .none kV doc pm an cdv ct) ⟨us, []⟩ = pure (ps.zip us)) : FnR P w K mg base (L2.CX P w) k f sp := by
  obtain ⟨fd, F, G⟩ := D.ex
  exact (G.raw (F.bindsN bnd) .nil).imp fun vs H Q E h => by rw [List.append_nil]; exact h
/-- n values, then the keywords ks -/
def FnKw (P : Program) (w : World) (K : PySem.W.Frag) (mg : Str → Option Value) (base : Heap) (k : Nat) (f : Addr) (n : Nat) (ks : List Str) (sp : Sp) : Prop :=
  ∀ (A : Around) (outer : List Env) (s : Shared) (H : Hp) (us ws : List Value) (vs : List V) (Q : VK) (E : XK), us.length = n → Room k A → Env0 P w K mg base A outer s H → Vals vs (us ++ ws) → sp vs H Q E →
    codeAny (model P w) A (.call (.ref f) ⟨us, ks.zip ws⟩) (CR (L2.CX P w) outer P w H s Q E) s
theorem FnD.kw (D : FnD P w K mg base k f ps sp x qual params body scope) (n : Nat) (ks : List Str) (hn : n + ks.length = ps.length)
    (bnd : ∀ (kV doc pm : Value) (an : Option Addr) (cdv ct : Value) (us ws : List Value), us.length = n → ws.length = ks.length → bindArgs (PySem.W.fnOf x qual params body scope .none kV doc pm an cdv ct) ⟨us, ks.zip ws⟩ = pure (ps.zip (us ++ ws))) : FnKw P w K mg base k f n ks sp := by
  obtain ⟨fd, F, G⟩ := D.ex
  intro A outer s H us ws vs Q E hl hr e0 r hs
  have l1 : (us ++ ws).length = ps.length := by rw [← r.length]; exact G.len _ _ _ _ hs
  have l2 : ws.length = ks.length := by rw [List.length_append, hl] at l1; omega
  refine G.run A outer s H ⟨us, ks.zip ws⟩ (us ++ ws) vs Q E hr e0 ?_ r hs
  obtain ⟨oc, od, dV, kV, doc, pm, an, cdv, ct, osl, rfl, lk, hcd, hD, hK⟩ := F.ex
  rcases hD with ⟨_, rfl⟩ | ⟨e, _⟩
  · exact .of_eq (bnd kV doc pm an cdv ct us ws hl l2)
  · exact absurd rfl e
end
section
variable {X : Cx} {k n : Nat} {f C : Addr} {ks : List Str} {sp : Sp} {E : XK} {x m : Str} {p pos apos : Pos} {e o : Expr} {es : List Expr} {kws : List Keyword} {ta : TE} {t tk : TA}
theorem run_fnKw {pins : List (Addr × Obj)} {σ : L2.St} {H : Hp} {s : Shared} {Q : VK} {us ws : List Value} {vs : List V} (F : FnKw X.prog X.w X.K X.mg X.base k f n ks sp) (hr : Room k X.A) (hx : Passes (L2.CX X.prog X.w) X E) (I : Inv X pins σ H s) (hl : us.length = n) (r : Vals vs (us ++ ws)) (h : sp vs H Q E) :
    wpAny (model X.prog X.w) X.A (call (.ref f) us (ks.zip ws)) (EP X pins σ Q) X.xe s := by
  refine wpAny_call (codeAny_mono (F X.A X.stack s H us ws vs Q E hl hr I.env0 r h) fun r s' hq => ?_)
  cases r with
  | error e => exact hx pins σ H s e s' I hq
  | ok fl =>
    cases fl with
    | ret u => exact I.after hq
    | next => exact False.elim hq
    | brk => exact False.elim hq
    | cont => exact False.elim hq
/-- f(k = v, ..), the keywords in the parameters' order -/
theorem pe_callKR (F : FnKw X.prog X.w X.K X.mg X.base k f 0 ks sp) (hr : Room k X.A) (hk : PySem.W.keepIn X.K (.ref f) = true) (hg : Gl X x) (hm : X.mg x = some (.ref f)) (hx : Passes (L2.CX X.prog X.w) X E) (hkw : PK X kws tk)
    (hall : (backToKw pos (keywordEach kws X.env)).all (·.1.isSome) = true := by rfl) (hks : (backToKw pos (keywordEach kws X.env)).filterMap (·.1) = ks := by rfl) (hdb : (x == ("__debug__" : Str)) = false := by decide)
    (hpl : ((backTo pos (starEach [] X.env)).any (·.1) || (backToKw pos (keywordEach kws X.env)).any (·.1.isNone)) = false := by rfl) :
    PE X (.Call (.Name x p) [] kws pos) (tCallR sp E tk) := by
  refine ⟨fun pins s σ H Q I h => ?_⟩
  refine wpAny_Call_Name_kw (ld_glob I hg hm ?_ hdb)
  refine PySem.W.callWith_KW0 (h₀ := X.base) I.ok.mod.kin hk hall ?_ hpl
  refine thn (hkw.run pos pins s σ H _ I h) fun ws s2 ⟨zs, H2, I2, rz, q2⟩ => ⟨I2.kIn, ?_⟩
  rw [hks]
  exact run_fnKw (us := []) F hr hx I2 rfl rz q2
/-- o.m(k = v, ..) -/
theorem pe_methKSl {pl : Sem Bool} (he : PE X o ta) (c : SlX.SCls X.K C) (hm : Meth X.K C m f) (F : FnKw X.prog X.w X.K X.mg X.base k f 1 ks sp) (hr : Room k X.A) (hx : Passes (L2.CX X.prog X.w) X E) (hkw : PK X kws tk)
    (hall : (backToKw pos (keywordEach kws X.env)).all (·.1.isSome) = true := by rfl) (hks : (backToKw pos (keywordEach kws X.env)).filterMap (·.1) = ks := by rfl)
    (hpl : ((backTo pos (starEach [] X.env)).any (·.1) || (backToKw pos (keywordEach kws X.env)).any (·.1.isNone)) = false := by rfl)
    (ht : eval (.Call (.Attribute o m apos) [] kws pos) X.env = (do
      let ov ← eval o X.env
      standAt apos.atName
      let (f, first) ← holding [ov] (getMethod ov m pl)
      callWith pos f first (backTo pos (starEach [] X.env)) (backToKw pos (keywordEach kws X.env))) := by rfl) :
    PE X (.Call (.Attribute o m apos) [] kws pos) (SlX.tMethSl C sp E ta tk) := by
  refine ⟨fun pins s σ H Q I h => ?_⟩
  refine PySem.W.methodCall_KW (pl := pl) (thn (he.run pins s σ H _ I h) fun u s1 ⟨x, H1, I1, rx, a, dx, vs, ex, hsl, q⟩ => ?_) ht
  subst ex
  obtain rfl : u = Value.ref a := rx
  refine SlX.getmethsl_ok I1 hsl c hm ?_
  refine PySem.W.callWith_KW0 (first := [.ref a]) (h₀ := X.base) I.ok.mod.kin hm.kp hall ?_ hpl
  refine thn (hkw.run pos pins s1 σ H1 _ I1 q) fun ws s2 ⟨zs, H2, I2, rz, q2⟩ => ⟨I2.kIn, ?_⟩
  rw [hks]
  exact run_fnKw (us := [.ref a]) (vs := .ref a :: zs) F hr hx I2 rfl (.cons rfl rz) q2
end
end Wl
set_option Elab.async false
set_option linter.all false
set_option maxRecDepth 100000
set_option maxHeartbeats 4000000
/-! Wl, part K: != of lists whose items are seen equal by an own __eq__; lists of the same items. -/
namespace Wl
open PySem PySem.SeqAt
open AutoSeq1 (wpAny_loadPart')
open MeetsSeq MeetsSeq2 MeetsSeq3 SeqRoads2
section
variable {prog : Program} {w : World} {A : Around} {R : Result → Shared → Prop}
theorem ne_loopG (l b : Addr) (N : Nat) (I : Nat → Shared → Prop) (hl : GQ.ListI prog w A (fun e s' => R (.error e) s') l b N I)
    (fin : ∀ s, I N s → R (.ok (.ret (.bool false))) s) (k : Nat) :
    ∀ i : Nat, N - i = k → i ≤ N → ∀ s, I i s →
      wpAny (model prog w) A.in1 (Builtin.«list.__eq__.loop» ⟨[.ref l, .ref b, rawInt i, rawInt 3], []⟩) (GQ.FinOf prog w A R) (fun e s' => R (.error e) s') s := by
  induction k with
  | zero =>
    intro i hk hi s h
    obtain ⟨items, items2, n, n2, hl1, hb1, hs1, hs2, _⟩ := hl _ _ h
    have hi' : i = N := by omega
    have hR : R (.ok (.ret (.bool false))) s := fin s (hi' ▸ h)
    obtain ⟨hp, g, d, tk, os⟩ := s
    wp_walk using wpAny_loadPart' hl1, wpAny_loadPart' hb1
    have hi1 : items[((i : Nat) : Int).toNat]? = none := by simp; omega
    have hi2 : items2[((i : Nat) : Int).toNat]? = none := by simp; omega
    rw [hi1, hi2]
    wp_walk using wpAny_loadPart' hl1, wpAny_loadPart' hb1
    show R (.ok (.ret (.bool (items.size != items2.size)))) _
    rw [hs1, hs2]
    simpa using hR
  | succ k ih =>
    intro i hk hi s h
    obtain ⟨items, items2, n, n2, hl1, hb1, hs1, hs2, turn⟩ := hl _ _ h
    have hlt : i < items.size := by omega
    have hlt2 : i < items2.size := by omega
    have ht := turn hlt hlt2
    obtain ⟨hp, g, d, tk, os⟩ := s
    wp_walk using wpAny_loadPart' hl1, wpAny_loadPart' hb1
    have hi1 : items[((i : Nat) : Int).toNat]? = some items[i] := by simp [hlt]
    have hi2 : items2[((i : Nat) : Int).toNat]? = some items2[i] := by simp [hlt2]
    have hc : ((i : Int) + 1) = ((i + 1 : Nat) : Int) := by omega
    rw [hi1, hi2]
    refine wpAny_bind (wpAny_mono ht (fun r s2 h2 => ?_) fun _ _ x => x)
    obtain ⟨hr, h2⟩ := h2
    subst hr
    have hrec := ih (i + 1) (by omega) (by omega) s2 h2
    obtain ⟨hp2, g2, d2, tk2, os2⟩ := s2
    wp_walk
    rw [hc]
    exact ⟨plainId_quiet plain_eq_loop _, codeAny_builtin entry_eq_loop (by
      rw [Around.under_plainId plain_eq_loop _]
      exact hrec)⟩
theorem list_neG (l b : Addr) (N : Nat) (I : Nat → Shared → Prop) (hl : GQ.ListI prog w A (fun e s' => R (.error e) s') l b N I)
    (fin : ∀ s, I N s → R (.ok (.ret (.bool false))) s) {s : Shared} (h : I 0 s) :
    wpAny (model prog w) A.in1 (Builtin.«list.__ne__» ⟨[.ref l, .ref b], []⟩) (GQ.FinOf prog w A R) (fun e s' => R (.error e) s') s := by
  obtain ⟨items, items2, n, n2, hl1, hb1, hs1, hs2, _⟩ := hl _ _ h
  have hrec := ne_loopG (A := A) (R := R) l b N I hl fin _ 0 rfl (Nat.zero_le _) s h
  obtain ⟨hp, g, d, tk, os⟩ := s
  have f3 := AutoSeq1.sub_list_list
  have hne : ¬ (items.size != items2.size) = true := by simp [hs1, hs2]
  wp_walk using wpAny_loadPart' hl1, wpAny_loadPart' hb1
  exact ⟨plainId_quiet plain_eq_loop _, codeAny_builtin entry_eq_loop (by
    rw [Around.under_plainId plain_eq_loop _]
    exact hrec)⟩
end
section
variable {prog : Program} {w : World} {A : Around} {E : Value → Shared → Prop} {s : Shared}
theorem rc_listNe {l b : Addr} {N : Nat} {Q : Value → Shared → Prop} (hu : A.units < cLine) (I : Nat → Shared → Prop) (hl : GQ.ListI prog w A E l b N I)
    (fin : ∀ s, I N s → Q (.bool false) s) (h : I 0 s) : wpAny (model prog w) A (richCompare .NotEq (.ref l) (.ref b)) Q E s := by
  obtain ⟨items, items2, n, n2, hl1, hb1, _, _, _⟩ := hl _ _ h
  refine wpAny_richCompare_same_room (op := .NotEq) ⟨_, hl1, rfl⟩ ⟨_, hb1, rfl⟩ F.slot_list_ne (GQ.call_here F.slot_list_ne ⟨_, hl1, rfl⟩ F.entry_list_ne (F.args_list_ne_2 _ _) ?_) hu
  exact list_neG (R := wants (fun v s' => v ≠ .notImplemented ∧ Q v s') E) l b N I hl (fun s' q => ⟨(fun x => nomatch x), fin s' q⟩) h
end
open PySem PySem.Spec PyProof.Rows L2
section
variable {X : Cx} {n : Nat} {D : Eqv}
/-- x != y of lists whose items D says equal -/
def rNeG (D : Eqv) : R2 := fun x y H Q => DList D x y H ∧ ∀ H', Same H H' → Q (.bl false) H'
theorem op_neG (hD : Mon D) (h : EqG X n D) (hr : Room (n + 1) X.A) : OpR X (compareOp .NotEq) (rNeG D) := by
  intro pins s σ H x y v u Q I rx ry hq
  obtain ⟨⟨a, b, xs, ys, rfl, rfl, ha, hb, p⟩, q⟩ := hq
  cases rx
  cases ry
  show wpAny (model X.prog X.w) X.A (richCompare .NotEq (.ref a) (.ref b)) (EP X pins σ Q) X.xe s
  refine rc_listNe (N := xs.length) hr.units0 (fun _ s' => LoopI X pins σ H s') (fun i s' q => ?_) (fun s' q' => ?_) ⟨H, I, Ext.rfl'⟩
  · obtain ⟨H1, I1, e1⟩ := id q
    obtain ⟨z, its, k, r, e⟩ := I1.hok a _ (e1 _ _ ha)
    obtain ⟨z2, its2, k2, r2, e2⟩ := I1.hok b _ (e1 _ _ hb)
    refine ⟨its.toArray, its2.toArray, k, k2, e, e2, by rw [List.size_toArray, ← r.length], by rw [List.size_toArray, ← r2.length, ← p.1], fun h1 h2 => ?_⟩
    exact turnG hD h ⟨hr, rfl⟩ p r r2 i h1 h2 s' q
  · obtain ⟨H1, I1, e1⟩ := q'
    exact ⟨.bl false, H1, I1, rfl, q H1 e1⟩
theorem op_eqLG (hD : Mon D) (h : EqG X n D) (hr : Room (n + 1) X.A) : OpR X (compareOp .Eq) (fun x y H Q => DList D x y H ∧ ∀ H', Same H H' → Q (.bl true) H') := op_eqG (rcG_list hD h) hr
/-- the same thing, or flat and the same -/
def DSelf : Eqv := fun x y _ => x = y ∧ ((∃ a, x = .ref a) ∨ ∃ i, x = .int i)
theorem mon_self : Mon DSelf := fun _ _ _ _ _ d => d
theorem eqG_self : EqG X 0 DSelf := by
  intro A pins s σ H x y u v sb I rx ry d
  obtain ⟨rfl, d⟩ := d
  rcases d with ⟨a, rfl⟩ | ⟨i, rfl⟩
  · cases rx
    cases ry
    exact SeqAt.EqAt.same (A := A) (s := s) (.ref a) X.prog X.w X.xe _ ⟨rfl, H, I, Ext.rfl'⟩
  · exact eqG_flat A pins s σ H _ _ u v sb I rx ry ⟨rfl, rfl, by show (i == i) = true; simp⟩
theorem Prs.self {xs : List V} {H : Hp} (h : ∀ x ∈ xs, (∃ a, x = .ref a) ∨ ∃ i, x = .int i) : Prs DSelf xs xs H :=
  ⟨rfl, fun i x y h1 h2 => by rw [h1] at h2; cases h2; exact ⟨rfl, h x (List.mem_of_getElem? h1)⟩⟩
/-- an own __eq__ that says yes, inside a list -/
theorem eqG_own {C f : Addr} {sp : Sp} (D : Eqv) (hs : PySem.W.findIn X.K (.ref C) "__eq__" = some (some (.ref f))) (hf : PySem.W.isFn X.K (.ref f) = true) (F : FnR X.prog X.w X.K X.mg X.base (L2.CX X.prog X.w) n f sp)
    (hD : ∀ x y H, D x y H → ∃ a dx vs t, x = .ref a ∧ SlX.Slt H a C dx vs ∧ TyY X.K C y H t ∧ PySem.W.notFirst X.K C t = true ∧ sp [x, y] H (fun v H' => v = .bl true ∧ Ext H H') E0) : EqG X n D := by
  intro A pins s σ H x y u v sb I rx ry d
  obtain ⟨a, dx, vs, t, rfl, ha, hy, hn, hsp⟩ := hD _ _ _ d
  cases (show u = Value.ref a from rx)
  have rc : wpAny (model X.prog X.w) A (richCompare .Eq (.ref a) v) (fun r s' => r = .bool true ∧ ∃ H', Inv X pins σ H' s' ∧ Ext H H') X.xe s := by
    obtain ⟨sl, od, _, J, _⟩ := SlX.slt_inst I ha
    obtain ⟨m, hF⟩ := I.fr
    refine PySem.W.cmp_K (op := .Eq) (tb := t) sb.room.units0 hF I.ok.mod.kin J (tyY_looks I ry hy) hn hs hf ?_
    have e0 : Env0 X.prog X.w X.K X.mg X.base A X.stack s H := by
      have e := I.env0
      exact ⟨by rw [sb.fr]; exact e.frames, e.mod, e.bs, e.bsz, e.funs, e.frf, e.hok, e.bare⟩
    have r2 : Vals [V.ref a, y] [Value.ref a, v] := .cons rfl (.cons ry .nil)
    refine wpAny_call (codeAny_mono (F A X.stack s H [.ref a, v] [.ref a, y] _ E0 sb.room e0 r2 hsp) fun r s' hq => ?_)
    cases r with
    | error e => exact (cx_never hq).elim
    | ok fl =>
      cases fl with
      | ret w =>
        obtain ⟨z, H', I', rz, ez, ex⟩ := I.after hq
        subst ez
        cases rz
        exact ⟨rfl, H', I', ex⟩
      | next => exact False.elim hq
      | brk => exact False.elim hq
      | cont => exact False.elim hq
  by_cases hab : v = .ref a
  · subst hab
    exact SeqAt.EqAt.same (A := A) (s := s) (.ref a) X.prog X.w X.xe _ ⟨rfl, H, I, Ext.rfl'⟩
  · unfold eqBool
    refine wpAny_holding ?_
    refine wpAny_ite_split (fun h => absurd (eq_of_beq h).symm hab) (fun _ => ?_)
    refine wpAny_bind (wpAny_mono rc (fun r s' hv => ?_) fun _ _ x => x)
    obtain ⟨rfl, q⟩ := hv
    exact wpAny_truthy_bool ⟨rfl, q⟩
end
end Wl
set_option Elab.async false
set_option linter.all false
set_option maxRecDepth 100000
set_option maxHeartbeats 4000000
/-! Wl, part L: chained comparisons. -/
namespace Wl
open PySem PySem.Spec PyProof.Rows L2 He
structure Chn (r r' : R2) (tc : TE) (σ : L2.St) (x y : V) (H : Hp) (Q : VK) : Prop where
  h : r x y H fun z H3 => ∃ k, z = .bl k ∧ (if k = true then tc σ H3 fun w' H4 => r' y w' H4 Q else Q (.bl false) H3)
def tChainS (r r' : R2) (ta tb tc : TE) : TE := fun σ H Q => ta σ H fun x H1 => tb σ H1 fun y H2 => Chn r r' tc σ x y H2 Q
theorem pe_chainS {X : Cx} {a b c : Expr} {pos : Pos} {ta tb tc : TE} {op op' : CmpOp} {r r' : R2} (ho : OpR X (compareOp op) r) (ho' : OpR X (compareOp op') r') (ha : PE X a ta) (hb : PE X b tb) (hc : PE X c tc)
    (hm : lastMarks [op, op'] [b, c] = false := by with_unfolding_all rfl) : PE X (.Compare a [op, op'] [b, c] pos) (tChainS r r' ta tb tc) := by
  refine ⟨fun pins s σ H Q I h => ?_⟩
  refine Compare_chain (thn (ha.run pins s σ H _ I h) fun v s1 ⟨x, H1, I1, r1, q1⟩ => chain_link (thn (hb.run pins s1 σ H1 _ I1 q1) fun u s2 ⟨y, H2, I2, r2, q2⟩ =>
    thn (ho pins s2 σ H2 x y v u _ I2 r1 r2 q2.h) fun d s3 ⟨z, H3, I3, r3, k, e, q3⟩ => ?_)) hm
  subst e
  cases r3
  refine wpAny_truthy_bool ?_
  cases k with
  | false => exact ite_ff ⟨.bl false, H3, I3, rfl, q3⟩
  | true => exact ite_tt (chain_last (thn (hc.run pins s3 σ H3 _ I3 q3) fun w' s4 ⟨z', H4, I4, r4, q4⟩ => ho' pins s4 σ H4 y z' u w' Q I4 r2 r4 q4))
theorem rd_chn {f g : Int → Int → V} {tc : TE} {σ : L2.St} {i j : Int} {H : Hp} {Q : VK} (l : Int) (b1 b2 : Bool) (h1 : f i j = .bl b1) (h2 : g j l = .bl b2) (hc : ∀ Q' : VK, Q' (.int l) H → tc σ H Q') (k : Q (.bl (b1 && b2)) H) :
    Chn (rI0 f) (rI0 g) tc σ (.int i) (.int j) H Q := by
  refine ⟨i, j, rfl, rfl, b1, h1, ?_⟩
  cases b1 with
  | true =>
    refine hc _ ⟨j, l, rfl, rfl, ?_⟩
    rw [h2]; exact k
  | false => exact k
/-! ### C(k = v, ..), told by what is asked of the values -/
theorem pe_makeKS {X : Cx} {CX : CXT} {k : Nat} {f C : Addr} {fd : FuncData} {ps ks : List Str} {sp : Sp} {E : XK} {x : Str} {p pos : Pos} {kws : List Keyword} {tk : TA} {g : List Value → List Value → List Value} {gV : List V → List V → List V}
    {S : List V → Hp → VK → XK → Prop} (M : Mk X.K C f) (F : FnOk X.prog X.w X.K X.mg X.base CX k f fd ps sp) (hr : Room (k + 1) X.A) (hg : Gl X x) (hm : X.mg x = some (.ref C)) (hb : KBn X.K fd ps 1 ks g gV) (hx : Passes CX X E)
    (hS : ∀ zs H Q, S zs H Q E → zs.length = ks.length ∧ ∀ x dx, H x = none → H dx = none → dx ≠ x → sp (gV [.ref x] zs) (upd (upd H dx (.own x)) x (.ins C dx [])) (fun v H2 => v = .non ∧ Q (.ref x) H2) E) (hkw : PK X kws tk)
    (hall : (backToKw pos (keywordEach kws X.env)).all (·.1.isSome) = true := by rfl) (hks : (backToKw pos (keywordEach kws X.env)).filterMap (·.1) = ks := by rfl) (hdb : (x == ("__debug__" : Str)) = false := by decide)
    (hpl : ((backTo pos (starEach [] X.env)).any (·.1) || (backToKw pos (keywordEach kws X.env)).any (·.1.isNone)) = false := by rfl) :
    PE X (.Call (.Name x p) [] kws pos) (tCallR S E tk) := by
  refine ⟨fun pins s σ H Q I h => ?_⟩
  refine wpAny_Call_Name_kw (ld_glob I hg hm ?_ hdb)
  refine PySem.W.callWith_KW0 (h₀ := X.base) I.ok.mod.kin M.kp hall ?_ hpl
  refine thn (hkw.run pos pins s σ H _ I h) fun ws s2 ⟨zs, H2, I2, rz, q2⟩ => ⟨I2.kIn, ?_⟩
  rw [hks]
  obtain ⟨l2, q3⟩ := hS _ _ _ q2
  exact run_makeK (us := []) (vs := []) M F hr hb hx I2 .nil rz rfl l2 q3
theorem same_sb {H0 H H' : Hp} {b : Addr} (s : Same H0 H) (t : SB b H H') (n : H0 b = none) : Same H0 H' := fun c o e => t c o (s c o e) (ne_of_none e n)
end Wl
set_option Elab.async false
set_option linter.all false
set_option maxRecDepth 100000
set_option maxHeartbeats 4000000
/-! Wl, part M: from the law's def to the row; what may be let out is told by the world. -/
namespace Wl
open PySem PySem.Spec PyProof.Rows L2 He
theorem walk_ofW {l : PySem.W.OpenLaw} {n k : Nat} {q : Program} {loose : List Str} {XP : (Str → Option Value) → Heap → Prop} {YP : World → Heap → Prop} {d : DefRec} {CX : World → CXT} {x : Str}
    (hn : l.most = some n) (hn2 : n ≤ sizeLine) (hdf : d.params.defaults = []) (hr : Room k callerA)
    (F : ∀ (w : World) (mg : Str → Option Value) (fa : Addr) (h : Heap), YP w h → h.Ns mainGlobals mg → mg d.name = some (.ref fa) →
      ∃ (K : PySem.W.Frag) (fd : FuncData) (sp : Sp), K.In h ∧ (∀ (s : Shared) (u : Value), BindsTo s fd ⟨[u], []⟩ [(x, u)]) ∧
        (∀ (H : Hp) (a : Addr) (ns : List Int), ns.length ≤ n → Only H → SqL K H a (ns.map V.int) → sp [.ref a] H (fun v _ => v = .bl true) fun _ _ _ => False) ∧
        ∀ base : Heap, K.In base → base.Ns mainGlobals mg → FnOk l.prog w K mg base (CX w) k fa fd [x] sp)
    (hCX : ∀ (w : World) (H : Hp) (s : Shared) (e : Value) (s' : Shared), CX w [] H s (fun _ _ _ => False) e s' → False) :
    PySem.W.WalkO q loose XP YP l.row.toRowW d [] (fun f vs => PySem.call f vs) := by
  refine Att.attach_call hn hdf fun w s₀ s₁ mg mb fa o pm cd doc a vs ns G Y ho hd hcd hmg hobj hints hlen hg => ?_
  obtain ⟨K, fd, sp, KX, hb, hsp, hF⟩ := F w mg fa _ Y G.T.g hmg
  exact law_call KX G.T.g G.T.b G.T.builtins G.T.nolimit hg hobj hints (Nat.le_trans hlen hn2) hr hF hb (fun H hO hS => hsp H a ns hlen hO hS) fun H e s' => hCX w H s₁ e s'
end Wl
set_option Elab.async false
set_option linter.all false
set_option maxRecDepth 100000
set_option maxHeartbeats 4000000
/-! The text of the law, by places; what the head tells. -/
namespace Lw
open PySem PySem.Spec PyProof.Rows L2 He Wl
def top (i : Nat) : Stmt := PySem.Challenge.pw_winoften_k02_ratios_reckoned.main.body.getD i (.Pass ⟨0, 0, 0, 0⟩)
abbrev s_InvalidNumber___init__ : Stmt := inClass (top 2) 0
abbrev s_InvalidText___init__ : Stmt := inClass (top 3) 0
abbrev s_ByZero___init__ : Stmt := inClass (top 4) 0
abbrev s_is_integer : Stmt := top 8
abbrev s_is_list : Stmt := top 9
abbrev s_common_divisor : Stmt := top 10
abbrev s_parts : Stmt := top 11
abbrev s_number_in : Stmt := top 12
abbrev s_Ratio___init__ : Stmt := inClass (top 13) 1
abbrev s_Ratio_top : Stmt := inClass (top 13) 2
abbrev s_Ratio_bottom : Stmt := inClass (top 13) 3
abbrev s_Ratio_read : Stmt := inClass (top 13) 4
abbrev s_Ratio___add__ : Stmt := inClass (top 13) 5
abbrev s_Ratio___sub__ : Stmt := inClass (top 13) 6
abbrev s_Ratio___mul__ : Stmt := inClass (top 13) 7
abbrev s_Ratio_over : Stmt := inClass (top 13) 8
abbrev s_Ratio___neg__ : Stmt := inClass (top 13) 9
abbrev s_Ratio___eq__ : Stmt := inClass (top 13) 10
abbrev s_Ratio_below : Stmt := inClass (top 13) 11
abbrev s_Ratio_text : Stmt := inClass (top 13) 12
abbrev s_is_number : Stmt := top 14
abbrev s_is_amount : Stmt := top 15
abbrev s_is_share : Stmt := top 16
abbrev s_as_ratio : Stmt := top 17
abbrev s_need_numbers : Stmt := top 18
abbrev s_total : Stmt := top 19
abbrev s_least : Stmt := top 20
abbrev s_greatest : Stmt := top 21
abbrev s__law_cell : Stmt := top 23
abbrev s__law_bag : Stmt := top 24
abbrev s__law_take : Stmt := top 25
abbrev s__law_frac : Stmt := top 26
abbrev s__law_plus : Stmt := top 27
abbrev s__law_minus : Stmt := top 28
abbrev s__law_times : Stmt := top 29
abbrev s__law_over : Stmt := top 30
abbrev s__law_less : Stmt := top 31
abbrev s__law_told : Stmt := top 32
abbrev s__law_whole : Stmt := top 33
abbrev s__law_pair : Stmt := top 34
abbrev s__law_made : Stmt := top 35
abbrev s__law_two_right : Stmt := top 36
abbrev s__law_kinds_right : Stmt := top 37
abbrev s__law_lists_right : Stmt := top 38
abbrev s_law : Stmt := top 39
theorem sc_InvalidNumber___init__ : FnScope ["self", "value"] ["self", "value"] (defScope s_InvalidNumber___init__) := ⟨rfl, rfl, rfl, by decide +kernel, rfl, by decide +kernel, by decide +kernel⟩
theorem sc_InvalidText___init__ : FnScope ["self", "value"] ["self", "value"] (defScope s_InvalidText___init__) := ⟨rfl, rfl, rfl, by decide +kernel, rfl, by decide +kernel, by decide +kernel⟩
theorem sc_ByZero___init__ : FnScope ["self"] ["self"] (defScope s_ByZero___init__) := ⟨rfl, rfl, rfl, by decide +kernel, rfl, by decide +kernel, by decide +kernel⟩
theorem sc_is_integer : FnScope ["value"] ["value"] (defScope s_is_integer) := ⟨rfl, rfl, rfl, by decide +kernel, rfl, by decide +kernel, by decide +kernel⟩
theorem sc_is_list : FnScope ["value"] ["value"] (defScope s_is_list) := ⟨rfl, rfl, rfl, by decide +kernel, rfl, by decide +kernel, by decide +kernel⟩
theorem sc_common_divisor : FnScope ["one", "other"] ["one", "other"] (defScope s_common_divisor) := ⟨rfl, rfl, rfl, by decide +kernel, rfl, by decide +kernel, by decide +kernel⟩
theorem sc_parts : FnScope ["number"] ["number"] (defScope s_parts) := ⟨rfl, rfl, rfl, by decide +kernel, rfl, by decide +kernel, by decide +kernel⟩
theorem sc_number_in : FnScope ["text", "figures", "sign", "number"] ["text"] (defScope s_number_in) := ⟨rfl, rfl, rfl, by decide +kernel, rfl, by decide +kernel, by decide +kernel⟩
theorem sc_Ratio___init__ : FnScope ["self", "top", "bottom", "number", "piece"] ["self", "top", "bottom"] (defScope s_Ratio___init__) := ⟨rfl, rfl, rfl, by decide +kernel, rfl, by decide +kernel, by decide +kernel⟩
theorem sc_Ratio_top : FnScope ["self"] ["self"] (defScope s_Ratio_top) := ⟨rfl, rfl, rfl, by decide +kernel, rfl, by decide +kernel, by decide +kernel⟩
theorem sc_Ratio_bottom : FnScope ["self"] ["self"] (defScope s_Ratio_bottom) := ⟨rfl, rfl, rfl, by decide +kernel, rfl, by decide +kernel, by decide +kernel⟩
theorem sc_Ratio_read : FnScope ["cls", "text", "words", "numbers", "word", "number", "found"] ["cls", "text"] (defScope s_Ratio_read) := ⟨rfl, rfl, rfl, by decide +kernel, rfl, by decide +kernel, by decide +kernel⟩
theorem sc_Ratio___add__ : FnScope ["self", "other", "top", "bottom"] ["self", "other"] (defScope s_Ratio___add__) := ⟨rfl, rfl, rfl, by decide +kernel, rfl, by decide +kernel, by decide +kernel⟩
theorem sc_Ratio___sub__ : FnScope ["self", "other", "top", "bottom"] ["self", "other"] (defScope s_Ratio___sub__) := ⟨rfl, rfl, rfl, by decide +kernel, rfl, by decide +kernel, by decide +kernel⟩
theorem sc_Ratio___mul__ : FnScope ["self", "other", "top", "bottom"] ["self", "other"] (defScope s_Ratio___mul__) := ⟨rfl, rfl, rfl, by decide +kernel, rfl, by decide +kernel, by decide +kernel⟩
theorem sc_Ratio_over : FnScope ["self", "number", "top", "bottom"] ["self", "number"] (defScope s_Ratio_over) := ⟨rfl, rfl, rfl, by decide +kernel, rfl, by decide +kernel, by decide +kernel⟩
theorem sc_Ratio___neg__ : FnScope ["self"] ["self"] (defScope s_Ratio___neg__) := ⟨rfl, rfl, rfl, by decide +kernel, rfl, by decide +kernel, by decide +kernel⟩
theorem sc_Ratio___eq__ : FnScope ["self", "other"] ["self", "other"] (defScope s_Ratio___eq__) := ⟨rfl, rfl, rfl, by decide +kernel, rfl, by decide +kernel, by decide +kernel⟩
theorem sc_Ratio_below : FnScope ["self", "number", "top", "bottom"] ["self", "number"] (defScope s_Ratio_below) := ⟨rfl, rfl, rfl, by decide +kernel, rfl, by decide +kernel, by decide +kernel⟩
theorem sc_Ratio_text : FnScope ["self"] ["self"] (defScope s_Ratio_text) := ⟨rfl, rfl, rfl, by decide +kernel, rfl, by decide +kernel, by decide +kernel⟩
theorem sc_is_number : FnScope ["value"] ["value"] (defScope s_is_number) := ⟨rfl, rfl, rfl, by decide +kernel, rfl, by decide +kernel, by decide +kernel⟩
theorem sc_is_amount : FnScope ["value"] ["value"] (defScope s_is_amount) := ⟨rfl, rfl, rfl, by decide +kernel, rfl, by decide +kernel, by decide +kernel⟩
theorem sc_is_share : FnScope ["value"] ["value"] (defScope s_is_share) := ⟨rfl, rfl, rfl, by decide +kernel, rfl, by decide +kernel, by decide +kernel⟩
theorem sc_as_ratio : FnScope ["number", "top", "bottom"] ["number"] (defScope s_as_ratio) := ⟨rfl, rfl, rfl, by decide +kernel, rfl, by decide +kernel, by decide +kernel⟩
theorem sc_need_numbers : FnScope ["numbers", "fewest", "item"] ["numbers", "fewest"] (defScope s_need_numbers) := ⟨rfl, rfl, rfl, by decide +kernel, rfl, by decide +kernel, by decide +kernel⟩
theorem sc_total : FnScope ["numbers", "found", "number"] ["numbers"] (defScope s_total) := ⟨rfl, rfl, rfl, by decide +kernel, rfl, by decide +kernel, by decide +kernel⟩
theorem sc_least : FnScope ["numbers", "place", "index", "number"] ["numbers"] (defScope s_least) := ⟨rfl, rfl, rfl, by decide +kernel, rfl, by decide +kernel, by decide +kernel⟩
theorem sc_greatest : FnScope ["numbers", "place", "index", "number"] ["numbers"] (defScope s_greatest) := ⟨rfl, rfl, rfl, by decide +kernel, rfl, by decide +kernel, by decide +kernel⟩
theorem sc__law_cell : FnScope ["_law_script", "_law_index"] ["_law_script", "_law_index"] (defScope s__law_cell) := ⟨rfl, rfl, rfl, by decide +kernel, rfl, by decide +kernel, by decide +kernel⟩
theorem sc__law_bag : FnScope ["_law_cell_here"] ["_law_cell_here"] (defScope s__law_bag) := ⟨rfl, rfl, rfl, by decide +kernel, rfl, by decide +kernel, by decide +kernel⟩
theorem sc__law_take : FnScope ["_law_bag_here", "_law_many", "_law_digit", "_law_mixed"] ["_law_bag_here", "_law_many"] (defScope s__law_take) := ⟨rfl, rfl, rfl, by decide +kernel, rfl, by decide +kernel, by decide +kernel⟩
theorem sc__law_frac : FnScope ["_law_up", "_law_down", "_law_one", "_law_other"] ["_law_up", "_law_down"] (defScope s__law_frac) := ⟨rfl, rfl, rfl, by decide +kernel, rfl, by decide +kernel, by decide +kernel⟩
theorem sc__law_plus : FnScope ["_law_x", "_law_y"] ["_law_x", "_law_y"] (defScope s__law_plus) := ⟨rfl, rfl, rfl, by decide +kernel, rfl, by decide +kernel, by decide +kernel⟩
theorem sc__law_minus : FnScope ["_law_x", "_law_y"] ["_law_x", "_law_y"] (defScope s__law_minus) := ⟨rfl, rfl, rfl, by decide +kernel, rfl, by decide +kernel, by decide +kernel⟩
theorem sc__law_times : FnScope ["_law_x", "_law_y"] ["_law_x", "_law_y"] (defScope s__law_times) := ⟨rfl, rfl, rfl, by decide +kernel, rfl, by decide +kernel, by decide +kernel⟩
theorem sc__law_over : FnScope ["_law_x", "_law_y"] ["_law_x", "_law_y"] (defScope s__law_over) := ⟨rfl, rfl, rfl, by decide +kernel, rfl, by decide +kernel, by decide +kernel⟩
theorem sc__law_less : FnScope ["_law_x", "_law_y"] ["_law_x", "_law_y"] (defScope s__law_less) := ⟨rfl, rfl, rfl, by decide +kernel, rfl, by decide +kernel, by decide +kernel⟩
theorem sc__law_told : FnScope ["_law_figure"] ["_law_figure"] (defScope s__law_told) := ⟨rfl, rfl, rfl, by decide +kernel, rfl, by decide +kernel, by decide +kernel⟩
theorem sc__law_whole : FnScope ["_law_bag_here", "_law_way", "_law_near"] ["_law_bag_here"] (defScope s__law_whole) := ⟨rfl, rfl, rfl, by decide +kernel, rfl, by decide +kernel, by decide +kernel⟩
theorem sc__law_pair : FnScope ["_law_bag_here", "_law_lo"] ["_law_bag_here"] (defScope s__law_pair) := ⟨rfl, rfl, rfl, by decide +kernel, rfl, by decide +kernel, by decide +kernel⟩
theorem sc__law_made : FnScope ["_law_bag_here", "_law_x"] ["_law_bag_here", "_law_x"] (defScope s__law_made) := ⟨rfl, rfl, rfl, by decide +kernel, rfl, by decide +kernel, by decide +kernel⟩
theorem sc__law_two_right : FnScope ["_law_bag_here", "_law_x", "_law_y", "_law_one", "_law_other", "_law_odd"] ["_law_bag_here", "_law_x", "_law_y"] (defScope s__law_two_right) := ⟨rfl, rfl, rfl, by decide +kernel, rfl, by decide +kernel, by decide +kernel⟩
theorem sc__law_kinds_right : FnScope ["_law_bag_here", "_law_x", "_law_thing", "_law_odd"] ["_law_bag_here", "_law_x"] (defScope s__law_kinds_right) := ⟨rfl, rfl, rfl, by decide +kernel, rfl, by decide +kernel, by decide +kernel⟩
theorem sc__law_lists_right : FnScope ["_law_bag_here", "_law_some", "_law_things", "_law_x", "_law_handed", "_law_kept", "_law_found", "_law_low", "_law_high", "_law_place"] ["_law_bag_here", "_law_some"] (defScope s__law_lists_right) := ⟨rfl, rfl, rfl, by decide +kernel, rfl, by decide +kernel, by decide +kernel⟩
theorem sc_law : FnScope ["_law_script", "_law_index", "_law_bag_here", "_law_some", "_law_lap", "_law_over_here", "_law_lo", "_law_x", "_law_opposite", "_law_y"] ["_law_script"] (defScope s_law) := ⟨rfl, rfl, rfl, by decide +kernel, rfl, by decide +kernel, by decide +kernel⟩
def d_InvalidNumber___init__ : DefY := ⟨.met "InvalidNumber" "__init__", "__init__", "InvalidNumber.__init__", defArgs s_InvalidNumber___init__, defBody s_InvalidNumber___init__, defScope s_InvalidNumber___init__, []⟩
def d_InvalidText___init__ : DefY := ⟨.met "InvalidText" "__init__", "__init__", "InvalidText.__init__", defArgs s_InvalidText___init__, defBody s_InvalidText___init__, defScope s_InvalidText___init__, []⟩
def d_ByZero___init__ : DefY := ⟨.met "ByZero" "__init__", "__init__", "ByZero.__init__", defArgs s_ByZero___init__, defBody s_ByZero___init__, defScope s_ByZero___init__, []⟩
def d_is_integer : DefY := ⟨.glo "is_integer", "is_integer", "is_integer", defArgs s_is_integer, defBody s_is_integer, defScope s_is_integer, []⟩
def d_is_list : DefY := ⟨.glo "is_list", "is_list", "is_list", defArgs s_is_list, defBody s_is_list, defScope s_is_list, []⟩
def d_common_divisor : DefY := ⟨.glo "common_divisor", "common_divisor", "common_divisor", defArgs s_common_divisor, defBody s_common_divisor, defScope s_common_divisor, []⟩
def d_parts : DefY := ⟨.glo "parts", "parts", "parts", defArgs s_parts, defBody s_parts, defScope s_parts, []⟩
def d_number_in : DefY := ⟨.glo "number_in", "number_in", "number_in", defArgs s_number_in, defBody s_number_in, defScope s_number_in, []⟩
def d_Ratio___init__ : DefY := ⟨.met "Ratio" "__init__", "__init__", "Ratio.__init__", defArgs s_Ratio___init__, defBody s_Ratio___init__, defScope s_Ratio___init__, [.int 1]⟩
def d_Ratio_top : DefY := ⟨.prp "Ratio" "top", "top", "Ratio.top", defArgs s_Ratio_top, defBody s_Ratio_top, defScope s_Ratio_top, []⟩
def d_Ratio_bottom : DefY := ⟨.prp "Ratio" "bottom", "bottom", "Ratio.bottom", defArgs s_Ratio_bottom, defBody s_Ratio_bottom, defScope s_Ratio_bottom, []⟩
def d_Ratio_read : DefY := ⟨.cme "Ratio" "read", "read", "Ratio.read", defArgs s_Ratio_read, defBody s_Ratio_read, defScope s_Ratio_read, []⟩
def d_Ratio___add__ : DefY := ⟨.met "Ratio" "__add__", "__add__", "Ratio.__add__", defArgs s_Ratio___add__, defBody s_Ratio___add__, defScope s_Ratio___add__, []⟩
def d_Ratio___sub__ : DefY := ⟨.met "Ratio" "__sub__", "__sub__", "Ratio.__sub__", defArgs s_Ratio___sub__, defBody s_Ratio___sub__, defScope s_Ratio___sub__, []⟩
def d_Ratio___mul__ : DefY := ⟨.met "Ratio" "__mul__", "__mul__", "Ratio.__mul__", defArgs s_Ratio___mul__, defBody s_Ratio___mul__, defScope s_Ratio___mul__, []⟩
def d_Ratio_over : DefY := ⟨.met "Ratio" "over", "over", "Ratio.over", defArgs s_Ratio_over, defBody s_Ratio_over, defScope s_Ratio_over, []⟩
def d_Ratio___neg__ : DefY := ⟨.met "Ratio" "__neg__", "__neg__", "Ratio.__neg__", defArgs s_Ratio___neg__, defBody s_Ratio___neg__, defScope s_Ratio___neg__, []⟩
def d_Ratio___eq__ : DefY := ⟨.met "Ratio" "__eq__", "__eq__", "Ratio.__eq__", defArgs s_Ratio___eq__, defBody s_Ratio___eq__, defScope s_Ratio___eq__, []⟩
def d_Ratio_below : DefY := ⟨.met "Ratio" "below", "below", "Ratio.below", defArgs s_Ratio_below, defBody s_Ratio_below, defScope s_Ratio_below, []⟩
def d_Ratio_text : DefY := ⟨.met "Ratio" "text", "text", "Ratio.text", defArgs s_Ratio_text, defBody s_Ratio_text, defScope s_Ratio_text, []⟩
def d_is_number : DefY := ⟨.glo "is_number", "is_number", "is_number", defArgs s_is_number, defBody s_is_number, defScope s_is_number, []⟩
def d_is_amount : DefY := ⟨.glo "is_amount", "is_amount", "is_amount", defArgs s_is_amount, defBody s_is_amount, defScope s_is_amount, []⟩
def d_is_share : DefY := ⟨.glo "is_share", "is_share", "is_share", defArgs s_is_share, defBody s_is_share, defScope s_is_share, []⟩
def d_as_ratio : DefY := ⟨.glo "as_ratio", "as_ratio", "as_ratio", defArgs s_as_ratio, defBody s_as_ratio, defScope s_as_ratio, []⟩
def d_need_numbers : DefY := ⟨.glo "need_numbers", "need_numbers", "need_numbers", defArgs s_need_numbers, defBody s_need_numbers, defScope s_need_numbers, []⟩
def d_total : DefY := ⟨.glo "total", "total", "total", defArgs s_total, defBody s_total, defScope s_total, []⟩
def d_least : DefY := ⟨.glo "least", "least", "least", defArgs s_least, defBody s_least, defScope s_least, []⟩
def d_greatest : DefY := ⟨.glo "greatest", "greatest", "greatest", defArgs s_greatest, defBody s_greatest, defScope s_greatest, []⟩
def d__law_cell : DefY := ⟨.glo "_law_cell", "_law_cell", "_law_cell", defArgs s__law_cell, defBody s__law_cell, defScope s__law_cell, []⟩
def d__law_bag : DefY := ⟨.glo "_law_bag", "_law_bag", "_law_bag", defArgs s__law_bag, defBody s__law_bag, defScope s__law_bag, []⟩
def d__law_take : DefY := ⟨.glo "_law_take", "_law_take", "_law_take", defArgs s__law_take, defBody s__law_take, defScope s__law_take, []⟩
def d__law_frac : DefY := ⟨.glo "_law_frac", "_law_frac", "_law_frac", defArgs s__law_frac, defBody s__law_frac, defScope s__law_frac, []⟩
def d__law_plus : DefY := ⟨.glo "_law_plus", "_law_plus", "_law_plus", defArgs s__law_plus, defBody s__law_plus, defScope s__law_plus, []⟩
def d__law_minus : DefY := ⟨.glo "_law_minus", "_law_minus", "_law_minus", defArgs s__law_minus, defBody s__law_minus, defScope s__law_minus, []⟩
def d__law_times : DefY := ⟨.glo "_law_times", "_law_times", "_law_times", defArgs s__law_times, defBody s__law_times, defScope s__law_times, []⟩
def d__law_over : DefY := ⟨.glo "_law_over", "_law_over", "_law_over", defArgs s__law_over, defBody s__law_over, defScope s__law_over, []⟩
def d__law_less : DefY := ⟨.glo "_law_less", "_law_less", "_law_less", defArgs s__law_less, defBody s__law_less, defScope s__law_less, []⟩
def d__law_told : DefY := ⟨.glo "_law_told", "_law_told", "_law_told", defArgs s__law_told, defBody s__law_told, defScope s__law_told, []⟩
def d__law_whole : DefY := ⟨.glo "_law_whole", "_law_whole", "_law_whole", defArgs s__law_whole, defBody s__law_whole, defScope s__law_whole, []⟩
def d__law_pair : DefY := ⟨.glo "_law_pair", "_law_pair", "_law_pair", defArgs s__law_pair, defBody s__law_pair, defScope s__law_pair, []⟩
def d__law_made : DefY := ⟨.glo "_law_made", "_law_made", "_law_made", defArgs s__law_made, defBody s__law_made, defScope s__law_made, []⟩
def d__law_two_right : DefY := ⟨.glo "_law_two_right", "_law_two_right", "_law_two_right", defArgs s__law_two_right, defBody s__law_two_right, defScope s__law_two_right, []⟩
def d__law_kinds_right : DefY := ⟨.glo "_law_kinds_right", "_law_kinds_right", "_law_kinds_right", defArgs s__law_kinds_right, defBody s__law_kinds_right, defScope s__law_kinds_right, []⟩
def d__law_lists_right : DefY := ⟨.glo "_law_lists_right", "_law_lists_right", "_law_lists_right", defArgs s__law_lists_right, defBody s__law_lists_right, defScope s__law_lists_right, []⟩
def d_law : DefY := ⟨.glo "law", "law", "law", defArgs s_law, defBody s_law, defScope s_law, []⟩
def fn : List DefY := [d_InvalidNumber___init__, d_InvalidText___init__, d_ByZero___init__, d_is_integer, d_is_list, d_common_divisor, d_parts, d_number_in, d_Ratio___init__, d_Ratio_top, d_Ratio_bottom, d_Ratio_read, d_Ratio___add__, d_Ratio___sub__, d_Ratio___mul__, d_Ratio_over, d_Ratio___neg__, d_Ratio___eq__, d_Ratio_below, d_Ratio_text, d_is_number, d_is_amount, d_is_share, d_as_ratio, d_need_numbers, d_total, d_least, d_greatest, d__law_cell, d__law_bag, d__law_take, d__law_frac, d__law_plus, d__law_minus, d__law_times, d__law_over, d__law_less, d__law_told, d__law_whole, d__law_pair, d__law_made, d__law_two_right, d__law_kinds_right, d__law_lists_right, d_law]
def fa : List He.Fa := [.glo "is_integer", .glo "is_list", .glo "common_divisor", .glo "parts", .glo "number_in", .glo "is_number", .glo "is_amount", .glo "is_share", .glo "as_ratio", .glo "need_numbers", .glo "total", .glo "least", .glo "greatest", .glo "_law_cell", .glo "_law_bag", .glo "_law_take", .glo "_law_frac", .glo "_law_plus", .glo "_law_minus", .glo "_law_times", .glo "_law_over", .glo "_law_less", .glo "_law_told", .glo "_law_whole", .glo "_law_pair", .glo "_law_made", .glo "_law_two_right", .glo "_law_kinds_right", .glo "_law_lists_right", .glo "law", .glo "WinError", .glo "InvalidNumber", .glo "InvalidText", .glo "ByZero", .glo "Ratio", .free "abs", .free "any", .free "bool", .free "classmethod", .free "enumerate", .free "int", .free "isinstance", .free "len", .free "list", .free "max", .free "min", .free "property", .free "range", .free "repr", .free "str", .free "tuple", .int "MOST_SIGNS" 100, .str "DIGITS" "0123456789"]
/-- the types that are met -/
def ordT : List String := ["NoneType", "bool", "int", "str", "list", "tuple", "dict"]
def exR (K : PySem.W.Frag) (R : Addr) : Bool := sclsB K R && (sisiB K R && (slotB K R "up" 1 && (slotB K R "down" 0 && (propB K R "top" && (propB K R "bottom" && (mkB K R && (methB K R "over" && (methB K R "below" && (methB K R "__eq__" && (methB K R "__neg__" &&
  (ownOpB K R "add" && (ownOpB K R "sub" && (ownOpB K R "mul" && (eqO (PySem.W.findIn K (.ref R) "__ne__") (some (some (.builtin "object.__ne__"))) &&
  (dB (PySem.W.kitOne K (.ref R) (.type "int")) (some false) && (dB (PySem.W.kitOne K (.ref R) (.type "bool")) (some false) && (dB (PySem.W.kitOne K (.ref R) (.type "list")) (some false) && (dB (PySem.W.kitOne K (.ref R) (.type "tuple")) (some false) &&
  (ordT.all fun n => dB (PySem.W.kitOne K (.type n) (.ref R)) (some false) && dB (PySem.W.subIn K (.type n) (.ref R)) (some false))))))))))))))))))))
def exE1 (K : PySem.W.Frag) (C : Addr) (f : Str) : Bool := oexB K C && (ownInitB K C && eqO (PySem.W.findIn K (.ref C) f) (some none))
def exE0 (K : PySem.W.Frag) (C : Addr) : Bool := oexB K C && ownInitB K C
def exB (K : PySem.W.Frag) : Bool := exR K (ga K "Ratio") && (baseInitB K (ga K "WinError") && (exE1 K (ga K "InvalidNumber") "value" && (exE0 K (ga K "ByZero") && dB (PySem.W.exmOne K (.ref (ga K "ByZero")) (.ref (ga K "ByZero"))) (some true))))
abbrev TX (K : PySem.W.Frag) (mg : Str → Option Value) : Prop := TY fa fn exB K mg
/-- what is known of Ratio -/
structure RF (K : PySem.W.Frag) (R : Addr) : Prop where
  cl : SlX.SCls K R
  isi : SlX.SIsi K R
  up : SlX.Slot1 K R "up" (ma K R "up") 1
  dn : SlX.Slot1 K R "down" (ma K R "down") 0
  ptop : PropSl K R "top" (ma K R "top") (recFn K (ma K R "top") "property")
  pbot : PropSl K R "bottom" (ma K R "bottom") (recFn K (ma K R "bottom") "property")
  make : Mk K R (ma K R "__init__")
  over : Meth K R "over" (ma K R "over")
  below : Meth K R "below" (ma K R "below")
  eq : Meth K R "__eq__" (ma K R "__eq__")
  neg : Meth K R "__neg__" (ma K R "__neg__")
  add : OwnOp K R "add" (ma K R "__add__")
  sub : OwnOp K R "sub" (ma K R "__sub__")
  mul : OwnOp K R "mul" (ma K R "__mul__")
  ne : PySem.W.findIn K (.ref R) "__ne__" = some (some (.builtin "object.__ne__"))
  kint : PySem.W.kitOne K (.ref R) (.type "int") = some false
  kbool : PySem.W.kitOne K (.ref R) (.type "bool") = some false
  klist : PySem.W.kitOne K (.ref R) (.type "list") = some false
  ktup : PySem.W.kitOne K (.ref R) (.type "tuple") = some false
  kty : ∀ n ∈ ordT, PySem.W.kitOne K (.type n) (.ref R) = some false ∧ PySem.W.subIn K (.type n) (.ref R) = some false
theorem rf_of {K : PySem.W.Frag} {R : Addr} (h : exR K R = true) : RF K R := by
  obtain ⟨h1, h⟩ := ba h
  obtain ⟨h2, h⟩ := ba h
  obtain ⟨h3, h⟩ := ba h
  obtain ⟨h4, h⟩ := ba h
  obtain ⟨h5, h⟩ := ba h
  obtain ⟨h6, h⟩ := ba h
  obtain ⟨h7, h⟩ := ba h
  obtain ⟨h8, h⟩ := ba h
  obtain ⟨h9, h⟩ := ba h
  obtain ⟨h10, h⟩ := ba h
  obtain ⟨h11, h⟩ := ba h
  obtain ⟨h12, h⟩ := ba h
  obtain ⟨h13, h⟩ := ba h
  obtain ⟨h14, h⟩ := ba h
  obtain ⟨h15, h⟩ := ba h
  obtain ⟨h16, h⟩ := ba h
  obtain ⟨h17, h⟩ := ba h
  obtain ⟨h18, h⟩ := ba h
  obtain ⟨h19, h20⟩ := ba h
  refine ⟨sclsB_ok h1, sisiB_ok h2, slotB_ok h3, slotB_ok h4, propB_ok h5, propB_ok h6, mkB_ok h7, methB_ok h8, methB_ok h9, methB_ok h10, methB_ok h11, ownOpB_ok h12, ownOpB_ok h13, ownOpB_ok h14, eqO_ok h15, dB_ok h16, dB_ok h17, dB_ok h18, dB_ok h19, fun n hn => ?_⟩
  obtain ⟨a, b⟩ := ba (List.all_eq_true.mp h20 n hn)
  exact ⟨dB_ok a, dB_ok b⟩
structure EF1 (K : PySem.W.Frag) (C : Addr) (f : Str) : Prop where
  o : OexC K C
  i : OwnInit K C (ma K C "__init__")
  n : PySem.W.findIn K (.ref C) f = some none
structure EF0 (K : PySem.W.Frag) (C : Addr) : Prop where
  o : OexC K C
  i : OwnInit K C (ma K C "__init__")
section
variable {K : PySem.W.Frag} {mg : Str → Option Value}
theorem x_r (T : TX K mg) : RF K (ga K "Ratio") := rf_of (ba T.x).1
theorem x_b (T : TX K mg) : BaseInit K (ga K "WinError") := baseInitB_ok (ba (ba T.x).2).1
theorem x_in (T : TX K mg) : EF1 K (ga K "InvalidNumber") "value" := by
  obtain ⟨h1, h⟩ := ba (ba (ba (ba T.x).2).2).1
  obtain ⟨h2, h3⟩ := ba h
  exact ⟨oexB_ok h1, ownInitB_ok h2, eqO_ok h3⟩
theorem x_z (T : TX K mg) : EF0 K (ga K "ByZero") := by
  obtain ⟨h1, h2⟩ := ba (ba (ba (ba (ba T.x).2).2).2).1
  exact ⟨oexB_ok h1, ownInitB_ok h2⟩
theorem x_zm (T : TX K mg) : PySem.W.exmOne K (.ref (ga K "ByZero")) (.ref (ga K "ByZero")) = some true := dB_ok (ba (ba (ba (ba T.x).2).2).2).2
end
end Lw
set_option Elab.async false
set_option linter.all false
set_option maxRecDepth 100000
set_option maxHeartbeats 0
/-! The head: the top's run and what it leaves. -/
namespace Lw
open PySem PySem.Spec PyProof.Rows L2 He Wl
abbrev R : PySem.W.OpenRow := PySem.W.OpenLaw.row PySem.Challenge.rw_winoften_k02_ratios_reckoned
abbrev hk : PySem.W.Hook := hookY 7 fa fn exB
def ob (s : PySem.W.SharedT) : He.AlD := obsYG 7 fa fn exB (HandSHeadRun.getT s)
theorem ob_eq (s : PySem.W.SharedT) : ob s = hk.obs s.abs := obsYG_eq (HandSHeadRun.getT_eq s)
def names : List PySem.Str := (["__name__", "WinError", "InvalidNumber", "InvalidText", "ByZero", "MOST_SIGNS", "DIGITS", "is_integer", "is_list", "common_divisor", "parts", "number_in", "Ratio", "is_number", "is_amount", "is_share", "as_ratio", "need_numbers", "total", "least", "greatest", "_law_cell", "_law_bag", "_law_take", "_law_frac", "_law_plus", "_law_minus", "_law_times", "_law_over", "_law_less"] : List PySem.Str) ++ (["_law_told", "_law_whole", "_law_pair", "_law_made", "_law_two_right", "_law_kinds_right", "_law_lists_right"] : List PySem.Str)
theorem run (w : World) : HandSHeadRun.RunEq R (PySem.W.view R.prog [39]) hk ob 4000 names w := by
  intro os
  kernel_rfl
end Lw
set_option Elab.async false
set_option linter.all false
set_option maxRecDepth 100000
set_option maxHeartbeats 4000000
/-! The defs of the program: exceptions, ratios. -/
namespace Lw
open PySem PySem.Spec PyProof.Rows L2 He Wl
section
variable {P : Program} {w : World} {K : PySem.W.Frag} {mg : Str → Option Value} {base : Heap}
/-! ### exceptions -/
theorem ok_InvalidNumber___init__ (T : TX K mg) : FnR P w K mg base (L2.CX P w) 1 (ma K (ga K "InvalidNumber") "__init__") (spExc1 (ga K "InvalidNumber") "value") := by
  refine fnR_of (T.d 0) sc_InvalidNumber___init__ (fun vs H Q E h => ?_) (fun _ _ _ _ _ _ us hl => match us, hl with | [_, _], _ => rfl) (fun cdv A outer s H vs Q E hr h => ?_)
  · obtain ⟨a, v, rfl, _⟩ := h; rfl
  · obtain ⟨a, v, rfl, ha, k⟩ := h
    refine ⟨_, pss_cons (ps_expr (pe_clsinit (x_b T) (by rfl) (T.g 30) (pa_cons (pv 0) (pa_cons pe_str pa_nil)))) (pss_one (ps_ost (pv 0) (pv 1))), ?_⟩
    refine ⟨_, rfl, a, ga K "InvalidNumber", _, rfl, (by decide), (x_in T).o, ha, ?_⟩
    exact ⟨_, rfl, _, rfl, a, _, rfl, (x_in T).o, (x_in T).n, .inl ⟨ha, fun d hd hda => k d hd hda⟩⟩
theorem ok_ByZero___init__ (T : TX K mg) : FnR P w K mg base (L2.CX P w) 1 (ma K (ga K "ByZero") "__init__") (spExc0 (ga K "ByZero")) := by
  refine fnR_of (T.d 2) sc_ByZero___init__ (fun vs H Q E h => ?_) (fun _ _ _ _ _ _ us hl => match us, hl with | [_], _ => rfl) (fun cdv A outer s H vs Q E hr h => ?_)
  · obtain ⟨a, rfl, _⟩ := h; rfl
  · obtain ⟨a, rfl, ha, k⟩ := h
    refine ⟨_, pss_one (ps_expr (pe_clsinit (x_b T) (by rfl) (T.g 30) (pa_cons (pv 0) (pa_cons pe_str pa_nil)))), ?_⟩
    exact ⟨_, rfl, a, ga K "ByZero", _, rfl, (by decide), (x_z T).o, ha, k⟩
/-! ### kinds of values -/
def OkT (R : Addr) (t : Value) : Prop := t = .ref R ∨ ∃ n ∈ ordT, t = .type n
theorem k_int (T : TX K mg) {t : Value} (h : OkT (ga K "Ratio") t) : PySem.W.kitOne K t (.type "int") = some (decide (t = .type "int") || decide (t = .type "bool")) := by
  rcases h with rfl | ⟨n, hn, rfl⟩
  · exact (x_r T).kint
  · simp only [ordT, List.mem_cons, List.not_mem_nil, or_false] at hn
    rcases hn with rfl | rfl | rfl | rfl | rfl | rfl | rfl <;> exact kit_ty (by decide +kernel)
theorem k_bool (T : TX K mg) {t : Value} (h : OkT (ga K "Ratio") t) : PySem.W.kitOne K t (.type "bool") = some (decide (t = .type "bool")) := by
  rcases h with rfl | ⟨n, hn, rfl⟩
  · exact (x_r T).kbool
  · simp only [ordT, List.mem_cons, List.not_mem_nil, or_false] at hn
    rcases hn with rfl | rfl | rfl | rfl | rfl | rfl | rfl <;> exact kit_ty (by decide +kernel)
theorem k_seq (T : TX K mg) {t : Value} (h : OkT (ga K "Ratio") t) : PySem.W.kitAny K t [.type "list", .type "tuple"] = some (decide (t = .type "list") || decide (t = .type "tuple")) := by
  rcases h with rfl | ⟨n, hn, rfl⟩
  · exact kitAny_cons (x_r T).klist (fun _ => kitAny_cons (x_r T).ktup (fun _ => kitAny_nil) (fun z => nomatch z)) (fun z => nomatch z)
  · simp only [ordT, List.mem_cons, List.not_mem_nil, or_false] at hn
    rcases hn with rfl | rfl | rfl | rfl | rfl | rfl | rfl <;>
      first
      | exact kitAny_cons (b := false) (kit_ty (by decide +kernel)) (fun _ => kitAny_cons (b := false) (kit_ty (by decide +kernel)) (fun _ => kitAny_nil) (fun z => nomatch z)) (fun z => nomatch z)
      | exact kitAny_cons (b := true) (kit_ty (by decide +kernel)) (fun z => nomatch z) (fun _ => rfl)
      | exact kitAny_cons (b := false) (kit_ty (by decide +kernel)) (fun _ => kitAny_cons (b := true) (kit_ty (by decide +kernel)) (fun z => nomatch z) (fun _ => rfl)) (fun z => nomatch z)
theorem k_rat (T : TX K mg) {t : Value} (h : OkT (ga K "Ratio") t) : PySem.W.kitOne K t (.ref (ga K "Ratio")) = some (decide (t = .ref (ga K "Ratio"))) := by
  rcases h with rfl | ⟨n, hn, rfl⟩
  · unfold PySem.W.kitOne; simp
  · rw [((x_r T).kty n hn).1]; simp
/-- is_integer: by the type -/
def spIsInt (K : PySem.W.Frag) : Sp := fun vs H Q _ => ∃ v t, vs = [v] ∧ TyY K (ga K "Ratio") v H t ∧ OkT (ga K "Ratio") t ∧ Q (.bl (decide (t = .type "int"))) H
theorem ok_is_integer (T : TX K mg) : FnR P w K mg base (L2.CX P w) 1 (ga K "is_integer") (spIsInt K) := by
  refine fnR_of (T.d 3) sc_is_integer (fun vs H Q E h => ?_) (fun _ _ _ _ _ _ us hl => match us, hl with | [_], _ => rfl) (fun cdv A outer s H vs Q E hr h => ?_)
  · obtain ⟨v, t, rfl, _⟩ := h; rfl
  · obtain ⟨v, t, rfl, ht, ho, k⟩ := h
    refine ⟨_, pss_one (ps_ret (pe_and (pe_callB (call_isiY (x_r T).cl (x_r T).isi) (by rfl) (T.f 41) (by decide +kernel) (pa_cons (pv 0) (pa_cons (pe_bltn (v := .ty "int") (u := .type "int") (by rfl) (T.f 40) (by decide +kernel) rfl) pa_nil))) (pe_one (pe_not (pe_callB (call_isiY (x_r T).cl (x_r T).isi) (by rfl) (T.f 41) (by decide +kernel) (pa_cons (pv 0) (pa_cons (pe_bltn (v := .ty "bool") (u := .type "bool") (by rfl) (T.f 37) (by decide +kernel) rfl) pa_nil))))))), ?_⟩
    refine ⟨_, rfl, v, .ty "int", t, .type "int", _, rfl, .ty _, ht, k_int T ho, _, rfl, ?_⟩
    refine ite2 (fun hc => ?_) (fun hc => ?_)
    · refine ⟨_, rfl, v, .ty "bool", t, .type "bool", _, rfl, .ty _, ht, k_bool T ho, _, rfl, ?_⟩
      have e : (!decide (t = Value.type "bool")) = decide (t = Value.type "int") := by
        rw [Bool.or_eq_true, decide_eq_true_eq, decide_eq_true_eq] at hc
        rcases hc with rfl | rfl <;> decide +kernel
      rw [e]; exact k
    · have e : decide (t = Value.type "int") = false := by
        cases q : decide (t = Value.type "int") with
        | false => rfl
        | true => rw [q] at hc; exact absurd rfl hc
      rw [e] at k; exact k
/-- is_list -/
def spIsList (K : PySem.W.Frag) : Sp := fun vs H Q _ => ∃ v t, vs = [v] ∧ TyY K (ga K "Ratio") v H t ∧ OkT (ga K "Ratio") t ∧ ∀ H', Same H H' → Q (.bl (decide (t = .type "list") || decide (t = .type "tuple"))) H'
theorem ok_is_list (T : TX K mg) : FnR P w K mg base (L2.CX P w) 1 (ga K "is_list") (spIsList K) := by
  refine fnR_of (T.d 4) sc_is_list (fun vs H Q E h => ?_) (fun _ _ _ _ _ _ us hl => match us, hl with | [_], _ => rfl) (fun cdv A outer s H vs Q E hr h => ?_)
  · obtain ⟨v, t, rfl, _⟩ := h; rfl
  · obtain ⟨v, t, rfl, ht, ho, k⟩ := h
    refine ⟨_, pss_one (ps_ret (pe_callB (call_isiTY (x_r T).cl (x_r T).isi) (by rfl) (T.f 41) (by decide +kernel) (pa_cons (pv 0) (pa_cons (pe_tup (pa_cons (pe_bltn (v := .ty "list") (u := .type "list") (by rfl) (T.f 43) (by decide +kernel) rfl) (pa_cons (pe_bltn (v := .ty "tuple") (u := .type "tuple") (by rfl) (T.f 50) (by decide +kernel) rfl) pa_nil))) pa_nil)))), ?_⟩
    refine ⟨_, rfl, by decide, grow fun p H1 s1 np hp => ?_⟩
    exact ⟨v, p, _, t, [.type "list", .type "tuple"], _, rfl, hp, .cons (.ty _) (.cons (.ty _) .nil), tyY_same s1 ht, k_seq T ho, k H1 s1⟩
/-- common_divisor: the greatest one -/
def spGcd : Sp := fun vs H Q _ => ∃ a b : Int, vs = [.int a, .int b] ∧ Q (.int (Int.gcd a b)) H
theorem ok_common_divisor (T : TX K mg) : FnR P w K mg base (L2.CX P w) 1 (ga K "common_divisor") spGcd := by
  refine fnR_of (T.d 5) sc_common_divisor (fun vs H Q E h => ?_) (fun _ _ _ _ _ _ us hl => match us, hl with | [_, _], _ => rfl) (fun cdv A outer s H vs Q E hr h => ?_)
  · obtain ⟨a, b, rfl, _⟩ := h; rfl
  · obtain ⟨a, b, rfl, k⟩ := h
    refine ⟨_, pss_cons (ps_while (passes_of rfl) (pt_cmpR op_ne (pv 1) pe_int (nomark _)) (pss_one (ps_par (by rfl) sc_common_divisor.nd (i := 0) (j := 1) rfl rfl (by decide) rfl rfl (pa_cons (pv 1) (pa_cons (pe_op op_modN (pv 0) (pv 1)) pa_nil)) (by rfl)))) (pss_one (ps_ret (pe_callB call_abs (by rfl) (T.f 35) (by decide +kernel) (pa_cons (pv 0) pa_nil)))), ?_⟩
    refine ⟨fun m σ H' => H' = H ∧ ∃ x y : Int, σ = [some (.int x), some (.int y)] ∧ m = y.natAbs ∧ Int.gcd x y = Int.gcd a b, ⟨_, rfl, a, b, rfl, rfl, rfl⟩, ?_⟩
    rintro m σ H' ⟨rfl, x, y, rfl, rfl, hg⟩
    refine ⟨_, rfl, rfl, _, rfl, ?_⟩
    refine ite2 (fun hc => ?_) (fun hc => ?_)
    · have hy : y ≠ 0 := by intro z; subst z; simp at hc
      refine ⟨fun σ' H'' => H'' = H' ∧ σ' = [some (.int y), some (.int (x.fmod y))], ?_, ?_⟩
      · rintro σ' H'' ⟨rfl, rfl⟩
        exact ⟨(x.fmod y).natAbs, fmod_natAbs_lt x hy, rfl, y, _, rfl, rfl, (gcd_fmod x y).trans hg⟩
      · exact ⟨_, rfl, _, rfl, _, rfl, _, _, rfl, rfl, hy, _, _, rfl, rfl, rfl⟩
    · have hy : y = 0 := by
        by_cases z : y = 0
        · exact z
        · exact absurd (by simp [z]) hc
      subst hy
      refine ⟨_, rfl, x, rfl, ?_⟩
      have e : (if x < 0 then -x else x) = ((Int.gcd a b : Nat) : Int) := by
        rw [← hg, Int.gcd_zero_right]
        split <;> omega
      rw [e]; exact k
end
end Lw
set_option Elab.async false
set_option linter.all false
set_option maxRecDepth 100000
set_option maxHeartbeats 4000000
/-! The class Ratio. -/
namespace Lw
open PySem PySem.Spec PyProof.Rows L2 He Wl
/-- a Ratio p / q stands at a -/
def RatAt (R : Addr) (H : Hp) (a : Addr) (p q : Int) : Prop := ∃ dx, SlX.Slt H a R dx [some (.int q), some (.int p)]
/-- v is the number p / q -/
def NumAt (R : Addr) (H : Hp) (v : V) (p q : Int) : Prop := (v = .int p ∧ q = 1) ∨ ∃ a, v = .ref a ∧ RatAt R H a p q
theorem RatAt.same {R : Addr} {H H' : Hp} {a : Addr} {p q : Int} (s : Same H H') (h : RatAt R H a p q) : RatAt R H' a p q := by
  obtain ⟨dx, h⟩ := h
  exact ⟨dx, slt_same s h⟩
theorem NumAt.same {R : Addr} {H H' : Hp} {v : V} {p q : Int} (s : Same H H') (h : NumAt R H v p q) : NumAt R H' v p q := by
  rcases h with h | ⟨a, e, h⟩
  · exact .inl h
  · exact .inr ⟨a, e, h.same s⟩
theorem NumAt.of {R : Addr} {H : Hp} {a : Addr} {p q : Int} (h : RatAt R H a p q) : NumAt R H (.ref a) p q := .inr ⟨a, rfl, h⟩
theorem NumAt.int {R : Addr} {H : Hp} (p : Int) : NumAt R H (.int p) p 1 := .inl ⟨rfl, rfl⟩
/-- the type of a number -/
theorem NumAt.ty {K : PySem.W.Frag} {R : Addr} {H : Hp} {v : V} {p q : Int} (h : NumAt R H v p q) : ∃ t, TyY K R v H t ∧ OkT R t ∧ (t = .type "int" ∨ t = .ref R) ∧ (t = .type "int" → v = .int p ∧ q = 1) ∧ (t = .ref R → ∃ a, v = .ref a ∧ RatAt R H a p q) := by
  rcases h with ⟨rfl, rfl⟩ | ⟨a, rfl, dx, h⟩
  · exact ⟨.type "int", .inl (.base (.int p)), .inr ⟨"int", by decide, rfl⟩, .inl rfl, (fun _ => ⟨rfl, rfl⟩), (fun z => nomatch z)⟩
  · exact ⟨.ref R, .inr ⟨rfl, a, dx, _, rfl, h⟩, .inl rfl, .inr rfl, (fun z => nomatch z), (fun _ => ⟨a, rfl, dx, h⟩)⟩
theorem NumAt.like {R : Addr} {H : Hp} {v : V} {p q : Int} (h : NumAt R H v p q) : NumLike R v H := by
  rcases h with ⟨rfl, rfl⟩ | ⟨a, rfl, dx, h⟩
  · exact .inl ⟨p, rfl⟩
  · exact .inr ⟨a, dx, _, rfl, h⟩
theorem tyY_int {K : PySem.W.Frag} {R : Addr} {H : Hp} {v : V} (h : TyY K R v H (.type "int")) : ∃ p, v = .int p := by
  rcases h with h | ⟨e, _⟩
  · generalize et : Value.type "int" = t at h
    cases h with
    | base h =>
      cases h with
      | int i => exact ⟨i, rfl⟩
      | _ => first | (cases et; done) | exact absurd et (by decide +kernel)
    | _ => first | (cases et; done) | exact absurd et (by decide +kernel)
  · cases e
section
variable {P : Program} {w : World} {K : PySem.W.Frag} {mg : Str → Option Value} {base : Heap}
def spTop (K : PySem.W.Frag) : Sp := fun vs H Q _ => ∃ a p q, vs = [.ref a] ∧ RatAt (ga K "Ratio") H a p q ∧ Q (.int p) H
def spBot (K : PySem.W.Frag) : Sp := fun vs H Q _ => ∃ a p q, vs = [.ref a] ∧ RatAt (ga K "Ratio") H a p q ∧ Q (.int q) H
theorem ok_Ratio_top (T : TX K mg) : FnR P w K mg base (L2.CX P w) 1 (recFn K (ma K (ga K "Ratio") "top") "property") (spTop K) := by
  refine fnR_of (T.d 9) sc_Ratio_top (fun vs H Q E h => ?_) (fun _ _ _ _ _ _ us hl => match us, hl with | [_], _ => rfl) (fun cdv A outer s H vs Q E hr h => ?_)
  · obtain ⟨a, p, q, rfl, _⟩ := h; rfl
  · obtain ⟨a, p, q, rfl, ⟨dx, ha⟩, k⟩ := h
    refine ⟨_, pss_one (ps_ret (SlX.pe_sl (pv 0))), ?_⟩
    exact ⟨_, rfl, a, _, dx, _, _, _, _, rfl, ha, (x_r T).cl, (x_r T).up, rfl, k⟩
theorem ok_Ratio_bottom (T : TX K mg) : FnR P w K mg base (L2.CX P w) 1 (recFn K (ma K (ga K "Ratio") "bottom") "property") (spBot K) := by
  refine fnR_of (T.d 10) sc_Ratio_bottom (fun vs H Q E h => ?_) (fun _ _ _ _ _ _ us hl => match us, hl with | [_], _ => rfl) (fun cdv A outer s H vs Q E hr h => ?_)
  · obtain ⟨a, p, q, rfl, _⟩ := h; rfl
  · obtain ⟨a, p, q, rfl, ⟨dx, ha⟩, k⟩ := h
    refine ⟨_, pss_one (ps_ret (SlX.pe_sl (pv 0))), ?_⟩
    exact ⟨_, rfl, a, _, dx, _, _, _, _, rfl, ha, (x_r T).cl, (x_r T).dn, rfl, k⟩
/-- parts: a new tuple of top and bottom -/
def spParts (K : PySem.W.Frag) : Sp := fun vs H Q _ => ∃ v p q, vs = [v] ∧ NumAt (ga K "Ratio") H v p q ∧ ∀ t H', Same H H' → H' t = some (.tup [.int p, .int q]) → Q (.ref t) H'
theorem ok_parts (T : TX K mg) : FnR P w K mg base (L2.CX P w) 5 (ga K "parts") (spParts K) := by
  refine fnR_of (T.d 6) sc_parts (fun vs H Q E h => ?_) (fun _ _ _ _ _ _ us hl => match us, hl with | [_], _ => rfl) (fun cdv A outer s H vs Q E hr h => ?_)
  · obtain ⟨v, p, q, rfl, _⟩ := h; rfl
  · obtain ⟨v, p, q, rfl, hn, k⟩ := h
    refine ⟨_, pss_cons (ps_if (pt_val (pe_callB (call_isiY (x_r T).cl (x_r T).isi) (by rfl) (T.f 41) (by decide +kernel) (pa_cons (pv 0) (pa_cons (pe_glob (v := .ref (ga K "Ratio")) (by rfl) (T.g 34) rfl) pa_nil)))) (pss_one (ps_ret (pe_tup (pa_cons (pe_prp (x_r T).cl (x_r T).ptop (ok_Ratio_top T) (hr.mono (by decide)) (pv 0)) (pa_cons (pe_prp (x_r T).cl (x_r T).pbot (ok_Ratio_bottom T) (hr.mono (by decide)) (pv 0)) pa_nil))))) (pss_nil)) (pss_one (ps_ret (pe_tup (pa_cons (pv 0) (pa_cons pe_int pa_nil))))), ?_⟩
    obtain ⟨t, ht, ho, _, hi, hr'⟩ := hn.ty (K := K)
    refine ⟨_, rfl, v, .ref (ga K "Ratio"), t, .ref (ga K "Ratio"), _, rfl, .own _, ht, k_rat T ho, _, rfl, ?_⟩
    refine ite2 (fun hc => ?_) (fun hc => ?_)
    · obtain ⟨a, rfl, dx, ha⟩ := hr' (of_decide_eq_true hc)
      refine ⟨_, rfl, a, dx, _, rfl, ha, a, p, q, rfl, ⟨dx, ha⟩, ?_⟩
      refine ⟨_, rfl, a, dx, _, rfl, ha, a, p, q, rfl, ⟨dx, ha⟩, ?_⟩
      exact ⟨sz 2, grow fun t1 H1 s1 n1 h1 => k t1 H1 s1 h1⟩
    · have hti : t = .type "int" := by
        rename_i hq
        rcases hq with z | z
        · exact z
        · exact absurd (decide_eq_true z) hc
      obtain ⟨rfl, rfl⟩ := hi hti
      exact ⟨_, rfl, sz 2, grow fun t1 H1 s1 n1 h1 => k t1 H1 s1 h1⟩
/-- what a refusal with a field asks -/
def Refused (E : XK) (C : Addr) (H : Hp) (v : V) : Prop := ∀ d H', Same H H' → H d = none → H' d = some (.xd [("value", v)]) → E (.ref C) (some d) H'
/-- Ratio.__init__ -/
def spInit (K : PySem.W.Frag) : Sp := fun vs H Q E => ∃ a dx v u tv tu, vs = [.ref a, v, u] ∧ H a = some (.ins (ga K "Ratio") dx []) ∧ H dx = some (.own a) ∧ dx ≠ a ∧ TyY K (ga K "Ratio") v H tv ∧ OkT (ga K "Ratio") tv ∧ TyY K (ga K "Ratio") u H tu ∧ OkT (ga K "Ratio") tu ∧
  (tv ≠ .type "int" → Refused E (ga K "InvalidNumber") H v) ∧ (tv = .type "int" → tu ≠ .type "int" → Refused E (ga K "InvalidNumber") H u) ∧
  (∀ p q, v = .int p → u = .int q → q = 0 → ∀ H', Same H H' → E (.ref (ga K "ByZero")) none H') ∧
  (∀ p q, v = .int p → u = .int q → q ≠ 0 → Bd 8000 q ∧ ∀ H', (∀ b o, H b = some o → b ≠ a → b ≠ dx → H' b = some o) → RatAt (ga K "Ratio") H' a (nrm p q).1 (nrm p q).2 → Q .non H')
theorem Refused.same {E : XK} {C : Addr} {H H' : Hp} {v : V} (s : Same H H') (h : Refused E C H v) : Refused E C H' v := fun d H2 s2 n e => h d H2 (s.trans s2) (s.free n) e
theorem ok_init0 (T : TX K mg) : ∃ fd, FunD K "__init__" "Ratio.__init__" (defArgs s_Ratio___init__) (defBody s_Ratio___init__) (defScope s_Ratio___init__) [.int 1] [] (ma K (ga K "Ratio") "__init__") fd ∧
    FnOk P w K mg base (L2.CX P w) 3 (ma K (ga K "Ratio") "__init__") fd ["self", "top", "bottom"] (spInit K) := by
  obtain ⟨fd, F⟩ := T.d 8
  refine ⟨fd, F, F.ok sc_Ratio___init__ (fun vs H Q E h => ?_) (fun cdv A outer s H vs Q E hr h => ?_)⟩
  · obtain ⟨a, dx, v, u, tv, tu, rfl, _⟩ := h; rfl
  · obtain ⟨a, dx, v, u, tv, tu, rfl, ha, hdx, nda, htv, hov, htu, hou, r1, r2, rz, ok⟩ := h
    refine ⟨_, pss_cons (ps_for (passes_of rfl) rfl (pi_list (pe_lst (pa_cons (pv 1) (pa_cons (pv 2) pa_nil)))) (pg_name (i := 3) sc_Ratio___init__.nd rfl (.inl rfl)) (pss_one (ps_if (pt_not (pt_val (pe_callR (ok_is_integer T) (hr.mono (by decide)) (T.kg 3) (by rfl) (T.g 0) passL (pa_cons (pv 3) pa_nil)))) (pss_one (ps_raise rfl (takes_of rfl rfl rfl rfl) (pmk_exc (x_in T).o (x_in T).i (ok_InvalidNumber___init__ T) (hr.mono (by decide)) passL (by rfl) (T.g 31) (pa_cons (pv 3) pa_nil)))) (pss_nil)))) (pss_cons (ps_if (pt_cmpR op_eq (pv 2) pe_int (nomark _)) (pss_one (ps_raise rfl (takes_of rfl rfl rfl rfl) (pmk_exc0 (x_z T).o (x_z T).i (ok_ByZero___init__ T) (hr.mono (by decide)) passL (by rfl) (T.g 33)))) (pss_nil)) (pss_cons (ps_set (i := 4) sc_Ratio___init__.nd rfl (.inl rfl) (pe_ifExp (pt_cmpR op_gt (pv 2) pe_int (nomark _)) (pe_callR (ok_common_divisor T) (hr.mono (by decide)) (T.kg 5) (by rfl) (T.g 2) passL (pa_cons (pv 1) (pa_cons (pv 2) pa_nil))) (pe_un un_neg (pe_callR (ok_common_divisor T) (hr.mono (by decide)) (T.kg 5) (by rfl) (T.g 2) passL (pa_cons (pv 1) (pa_cons (pv 2) pa_nil)))))) (pss_cons (SlX.ps_sl (pv 0) (pe_op op_fdivNW (pv 1) (pv 4))) (pss_one (SlX.ps_sl (pv 0) (pe_op op_fdivNW (pv 2) (pv 4))))))), ?_⟩
    refine ⟨_, rfl, _, rfl, sz 2, ?_⟩
    intro l nl; generalize he' : upd _ _ _ = H1; obtain ⟨s1, hl⟩ := new_facts nl he'; clear he'
    refine ⟨l, rfl, ⟨_, SqL.of hl⟩, for_list (K := K) (a := l) (xs := [v, u]) (fun i σ H2 => H2 = H1 ∧ (∃ z, σ = [some (.ref a), some v, some u, z, none]) ∧ (1 ≤ i → tv = .type "int") ∧ (2 ≤ i → tu = .type "int"))
      ⟨rfl, ⟨none, rfl⟩, by omega, by omega⟩ (fun i σ H2 _ ⟨e, _⟩ => by rw [e]; exact SqL.of hl) ?_ ?_⟩
    · rintro i x σ H2 hi ⟨rfl, ⟨z, rfl⟩, c1, c2⟩
      match i, hi with
      | 0, hi =>
        cases hi
        refine ⟨_, rfl, v, tv, rfl, tyY_same s1 htv, hov, _, rfl, ?_⟩
        refine ite2 (fun hc => ?_) (fun hc => ?_)
        · have hne : tv ≠ .type "int" := fun e => by rw [e] at hc; simp at hc
          exact ⟨_, rfl, (by simp), rd_exc1 fun d H3 s3 nd hd => r1 hne d H3 (s1.trans s3) (s1.free nd) hd⟩
        · have he : tv = .type "int" := by
            by_cases e : tv = .type "int"
            · exact e
            · exact absurd (by simp [e]) hc
          exact ⟨rfl, ⟨_, rfl⟩, fun _ => he, fun q => absurd q (by omega)⟩
      | 1, hi =>
        cases hi
        refine ⟨_, rfl, u, tu, rfl, tyY_same s1 htu, hou, _, rfl, ?_⟩
        refine ite2 (fun hc => ?_) (fun hc => ?_)
        · have hne : tu ≠ .type "int" := fun e => by rw [e] at hc; simp at hc
          exact ⟨_, rfl, (by simp), rd_exc1 fun d H3 s3 nd hd => r2 (c1 (Nat.le_refl _)) hne d H3 (s1.trans s3) (s1.free nd) hd⟩
        · have he : tu = .type "int" := by
            by_cases e : tu = .type "int"
            · exact e
            · exact absurd (by simp [e]) hc
          exact ⟨rfl, ⟨_, rfl⟩, fun _ => c1 (Nat.le_refl _), fun _ => he⟩
    · rintro σ H2 ⟨rfl, ⟨z, rfl⟩, c1, c2⟩
      have e1 := c1 (by simp)
      have e2 := c2 (by simp)
      subst e1 e2
      obtain ⟨p, rfl⟩ := tyY_int htv
      obtain ⟨q, rfl⟩ := tyY_int htu
      refine ⟨_, rfl, rfl, _, rfl, ?_⟩
      refine ite2 (fun hc => ?_) (fun hc => ?_)
      · have hq : q = 0 := by simpa using hc
        exact ⟨(by simp), rd_exc0 fun H3 s3 => rz p q rfl rfl hq H3 (s1.trans s3)⟩
      · have hq : q ≠ 0 := fun e => hc (by simp [e])
        obtain ⟨bq, fin⟩ := ok p q rfl rfl hq
        have hg : Bd 8000 (gsg p q) := bq.le (gsg_le hq)
        have hl2 : (gsg p q).natAbs.log2 < 9000 := Nat.lt_of_lt_of_le (PySem.Flt.log2_lt_of (by decide) hg) (by decide)
        have ha1 := s1 _ _ ha
        have hd1 := s1 _ _ hdx
        -- piece is gsg p q, by either way
        refine ⟨_, rfl, _, _, rfl, rfl, _, rfl, ?_⟩
        have rest : ∀ g : Int, g = gsg p q → (tSeq (SlX.sSl K (tVar 0) (tOp (rI CDivNW fun i j => V.int (i.fdiv j)) (tVar 1) (tVar 4)) "up") (SlX.sSl K (tVar 0) (tOp (rI CDivNW fun i j => V.int (i.fdiv j)) (tVar 2) (tVar 4)) "down"))
            { nx := fun _ H' => Q .non H', rt := Q } [some (.ref a), some (.int p), some (.int q), z, some (.int g)] H2 := by
          rintro g rfl
          refine ⟨_, rfl, _, rfl, p, gsg p q, rfl, rfl, ⟨gsg_ne hq, hl2⟩, _, rfl, a, _, dx, _, [], 1, rfl, .inl ⟨ha1, rfl⟩, (x_r T).cl, (x_r T).up, ?_⟩
          have S2 := SlX.slH_slt (H := H2) (a := a) (C := ga K "Ratio") (dx := dx) (vs := SlX.putS 1 (V.int (p.fdiv (gsg p q))) []) nda
          refine ⟨_, rfl, _, rfl, q, gsg p q, rfl, rfl, ⟨gsg_ne hq, hl2⟩, _, rfl, a, _, dx, _, _, 0, rfl, S2, (x_r T).cl, (x_r T).dn, ?_⟩
          rw [SlX.slH_twice nda]
          refine fin _ (fun b o e n1 n2 => ?_) ⟨dx, SlX.slH_slt nda⟩
          rw [SlX.slH_ne n1 n2]
          exact s1 b o e
        refine ite2 (fun hc => ?_) (fun hc => ?_)
        · have hq0 : 0 < q := of_decide_eq_true hc
          refine ⟨_, rfl, _, rfl, p, q, rfl, ?_⟩
          exact rest _ (by unfold gsg; rw [if_pos hq0])
        · have hq0 : ¬ 0 < q := fun h => hc (decide_eq_true h)
          refine ⟨_, rfl, _, rfl, p, q, rfl, _, rfl, ?_⟩
          exact rest _ (by unfold gsg; rw [if_neg hq0])
end
end Lw
set_option Elab.async false
set_option linter.all false
set_option maxRecDepth 100000
set_option maxHeartbeats 4000000
/-! Ratios made, and their operators. -/
namespace Lw
open PySem PySem.Spec PyProof.Rows L2 He Wl
section
variable {P : Program} {w : World} {K : PySem.W.Frag} {mg : Str → Option Value} {base : Heap}
theorem ok_Ratio___init__ (T : TX K mg) : FnR P w K mg base (L2.CX P w) 3 (ma K (ga K "Ratio") "__init__") (spInit K) := by
  obtain ⟨fd, F, G⟩ := ok_init0 (P := P) (w := w) (base := base) T
  obtain ⟨ds, hv, hb⟩ := F.binds1 (ps := ["self", "top", "bottom"]) 3 1 (by simp) rfl (fun T kV doc pm an cdv ct us its hl hi => match us, its, hl, hi with | [_, _, _], [_], _, _ => ⟨_, rfl, rfl⟩)
  exact (G.raw hb hv).imp fun vs H Q E h => by
    show spInit K (vs ++ []) H Q E
    rw [List.append_nil]; exact h
/-- the bottom left out -/
theorem ok_Ratio1 (T : TX K mg) : FnR P w K mg base (L2.CX P w) 3 (ma K (ga K "Ratio") "__init__") (fun vs H Q E => spInit K (vs ++ [.int 1]) H Q E) := by
  obtain ⟨fd, F, G⟩ := ok_init0 (P := P) (w := w) (base := base) T
  obtain ⟨ds, hv, hb⟩ := F.binds1 (ps := ["self", "top", "bottom"]) 2 0 (by simp) rfl (fun T kV doc pm an cdv ct us its hl hi => match us, its, hl, hi with | [_, _], [_], _, _ => ⟨_, rfl, rfl⟩)
  exact (G.raw hb hv).imp fun vs H Q E h => h
end
/-- what Ratio(..) asks; d: what is left out -/
structure SpMk (K : PySem.W.Frag) (d vs : List V) (H : Hp) (Q : VK) (E : XK) : Prop where
  h : ∃ v u tv tu, vs ++ d = [v, u] ∧ TyY K (ga K "Ratio") v H tv ∧ OkT (ga K "Ratio") tv ∧ TyY K (ga K "Ratio") u H tu ∧ OkT (ga K "Ratio") tu ∧
    (tv ≠ .type "int" → Refused E (ga K "InvalidNumber") H v) ∧ (tv = .type "int" → tu ≠ .type "int" → Refused E (ga K "InvalidNumber") H u) ∧
    (∀ p q, v = .int p → u = .int q → q = 0 → ∀ H', Same H H' → E (.ref (ga K "ByZero")) none H') ∧
    (∀ p q, v = .int p → u = .int q → q ≠ 0 → Bd 8000 q ∧ ∀ a H', Same H H' → RatAt (ga K "Ratio") H' a (nrm p q).1 (nrm p q).2 → Q (.ref a) H')
theorem SpMk.raw {K : PySem.W.Frag} {d vs : List V} {H : Hp} {Q : VK} {E : XK} (h : SpMk K d vs H Q E) :
    ∀ x dx, H x = none → H dx = none → dx ≠ x → spInit K ((.ref x :: vs) ++ d) (upd (upd H dx (.own x)) x (.ins (ga K "Ratio") dx [])) (fun v H2 => v = .non ∧ Q (.ref x) H2) E := by
  intro x dx hx hd ne
  obtain ⟨v, u, tv, tu, e, h1, h2, h3, h4, r1, r2, rz, ok⟩ := h.h
  have sm : Same H (upd (upd H dx (.own x)) x (.ins (ga K "Ratio") dx [])) := fun b o eb => by
    rw [upd_ne (ne_of_none eb hx), upd_ne (ne_of_none eb hd)]; exact eb
  refine ⟨x, dx, v, u, tv, tu, congrArg (V.ref x :: ·) e, upd_same, by rw [upd_ne ne, upd_same], ne, tyY_same sm h1, h2, tyY_same sm h3, h4, fun z => (r1 z).same sm, fun z1 z2 => (r2 z1 z2).same sm, fun p q e1 e2 e3 H' s' => rz p q e1 e2 e3 H' (sm.trans s'), fun p q e1 e2 e3 => ?_⟩
  obtain ⟨bq, k⟩ := ok p q e1 e2 e3
  refine ⟨bq, fun H' fr ra => ⟨rfl, k x H' (fun b o e => fr b o ?_ (ne_of_none e hx) (ne_of_none e hd)) ra⟩⟩
  exact sm b o e
section
variable {X : Cx} {p pos : Pos} {e : Expr} {es : List Expr} {t : TA} {E : XK}
theorem pe_ratio2 (T : TX X.K X.mg) (hr : Room (3 + 1) X.A) (hg : Gl X "Ratio") (hm : X.mg "Ratio" = some (.ref (ga X.K "Ratio"))) (hx : Passes (L2.CX X.prog X.w) X E) (ha : PA X (e :: es) t)
    (he : starEach (e :: es) X.env = (false, eval e X.env) :: starEach es X.env := by rfl) (hpl : (backTo pos (starEach es X.env)).any (·.1) = false := by rfl) : PE X (.Call (.Name "Ratio" p) (e :: es) [] pos) (tCallR (SpMk X.K []) E t) :=
  pe_makeS (x_r T).make (ok_Ratio___init__ T) hr hg hm hx (fun vs H Q h x dx e1 e2 e3 => by have z := h.raw x dx e1 e2 e3; rw [List.append_nil] at z; exact z) ha (by decide) he hpl
theorem pe_ratio1 (T : TX X.K X.mg) (hr : Room (3 + 1) X.A) (hg : Gl X "Ratio") (hm : X.mg "Ratio" = some (.ref (ga X.K "Ratio"))) (hx : Passes (L2.CX X.prog X.w) X E) (ha : PA X (e :: es) t)
    (he : starEach (e :: es) X.env = (false, eval e X.env) :: starEach es X.env := by rfl) (hpl : (backTo pos (starEach es X.env)).any (·.1) = false := by rfl) : PE X (.Call (.Name "Ratio" p) (e :: es) [] pos) (tCallR (SpMk X.K [.int 1]) E t) :=
  pe_makeS (x_r T).make (ok_Ratio1 T) hr hg hm hx (fun vs H Q h => h.raw) ha (by decide) he hpl
end
theorem SpMk.ints {K : PySem.W.Frag} {d vs : List V} {H : Hp} {Q : VK} {E : XK} {p q : Int} (e : vs ++ d = [.int p, .int q]) (h0 : q = 0 → ∀ H', Same H H' → E (.ref (ga K "ByZero")) none H')
    (h1 : q ≠ 0 → Bd 8000 q ∧ ∀ a H', Same H H' → RatAt (ga K "Ratio") H' a (nrm p q).1 (nrm p q).2 → Q (.ref a) H') : SpMk K d vs H Q E := by
  have ti : ∀ (H : Hp) (i : Int), TyY K (ga K "Ratio") (.int i) H (.type "int") := fun H i => .inl (.base (.int i))
  have oi : OkT (ga K "Ratio") (.type "int") := .inr ⟨"int", by decide, rfl⟩
  refine ⟨_, _, _, _, e, ti _ _, oi, ti _ _, oi, fun z => absurd rfl z, fun _ z => absurd rfl z, fun p' q' e1 e2 e3 => ?_, fun p' q' e1 e2 e3 => ?_⟩
  · cases e2; exact h0 e3
  · cases e1; cases e2; exact h1 e3
/-- the reading of Ratio(p, q) where it is made -/
theorem rd_ratio {K : PySem.W.Frag} {H1 : Hp} {Q : VK} {E : XK} {p q : Int} (hq : q ≠ 0) (bq : Bd 8000 q) (k : ∀ a H', Same H1 H' → RatAt (ga K "Ratio") H' a (nrm p q).1 (nrm p q).2 → Q (.ref a) H') : SpMk K [] [.int p, .int q] H1 Q E :=
  .ints rfl (fun z => absurd z hq) fun _ => ⟨bq, k⟩
/-- .. of Ratio(p) -/
theorem rd_ratio1 {K : PySem.W.Frag} {H1 : Hp} {Q : VK} {E : XK} {p : Int} (k : ∀ a H', Same H1 H' → RatAt (ga K "Ratio") H' a p 1 → Q (.ref a) H') : SpMk K [.int 1] [.int p] H1 Q E :=
  .ints (q := 1) rfl (fun z => absurd z (by decide)) fun _ => ⟨Bd.one (by decide), fun a H' s h => k a H' s (by rw [low_nrm1] at h; exact h)⟩
/-- .. where its bottom is 0 -/
theorem rd_ratio0 {K : PySem.W.Frag} {H1 : Hp} {Q : VK} {E : XK} {p q : Int} (hq : q = 0) (k : ∀ H', Same H1 H' → E (.ref (ga K "ByZero")) none H') : SpMk K [] [.int p, .int q] H1 Q E :=
  .ints rfl (fun _ => k) fun z => absurd hq z
section
variable {P : Program} {w : World} {K : PySem.W.Frag} {mg : Str → Option Value} {base : Heap}
/-- an operator: a Ratio a / b, a number c / d; f tells the quotient that is made -/
def spBin (K : PySem.W.Frag) (f : Int → Int → Int → Int → Int × Int) : Sp := fun vs H Q _ => ∃ a v p q r s, vs = [.ref a, v] ∧ RatAt (ga K "Ratio") H a p q ∧ NumAt (ga K "Ratio") H v r s ∧ Bd 3000 p ∧ Bd 3000 q ∧ Bd 3000 r ∧ Bd 3000 s ∧ q ≠ 0 ∧ s ≠ 0 ∧
  ∀ c H', Same H H' → RatAt (ga K "Ratio") H' c (nrm (f p q r s).1 (f p q r s).2).1 (nrm (f p q r s).1 (f p q r s).2).2 → Q (.ref c) H'
abbrev fAdd (p q r s : Int) : Int × Int := (p * s + r * q, q * s)
abbrev fSub (p q r s : Int) : Int × Int := (p * s - r * q, q * s)
abbrev fMul (p q r s : Int) : Int × Int := (p * r, q * s)
abbrev fOver (p q r s : Int) : Int × Int := (p * s, q * r)
theorem ok_Ratio___add__ (T : TX K mg) : FnR P w K mg base (L2.CX P w) 6 (ma K (ga K "Ratio") "__add__") (spBin K fAdd) := by
  refine fnR_of (T.d 12) sc_Ratio___add__ (fun vs H Q E h => ?_) (fun _ _ _ _ _ _ us hl => match us, hl with | [_, _], _ => rfl) (fun cdv A outer s H vs Q E hr h => ?_)
  · obtain ⟨a, v, p, q, r, s, rfl, _⟩ := h; rfl
  · obtain ⟨a, v, p, q, r, z, rfl, ⟨dx, ha⟩, hv, bp, bq, br, bs, hq, hs, k⟩ := h
    refine ⟨_, pss_cons (ps_asg (pe_callR (ok_parts T) (hr.mono (by decide)) (T.kg 6) (by rfl) (T.g 3) passL (pa_cons (pv 1) pa_nil)) (pg_tup rfl (pgs_cons (pg_name (i := 2) sc_Ratio___add__.nd rfl (.inl rfl)) (pgs_cons (pg_name (i := 3) sc_Ratio___add__.nd rfl (.inl rfl)) pgs_nil)))) (pss_one (ps_ret (pe_ratio2 T (hr.mono (by decide)) (by rfl) (T.g 34) passL (pa_cons (pe_op op_add (pe_op op_mulW (SlX.pe_sl (pv 0)) (pv 3)) (pe_op op_mulW (pv 2) (SlX.pe_sl (pv 0)))) (pa_cons (pe_op op_mulW (SlX.pe_sl (pv 0)) (pv 3)) pa_nil))))), ?_⟩
    refine ⟨_, rfl, v, r, z, rfl, hv, fun t H1 s1 ht => ⟨t, _, rfl, SqT.of ht, rfl, _, _, rfl, _, _, rfl, rfl, ?_⟩⟩
    have ha1 := slt_same s1 ha
    refine ⟨_, rfl, a, _, dx, _, _, _, _, rfl, ha1, (x_r T).cl, (x_r T).up, rfl, _, rfl, p, z, rfl, rfl, bp.mulW bs (by decide) (by decide) (by decide), ?_⟩
    refine ⟨_, rfl, _, rfl, a, _, dx, _, _, _, _, rfl, ha1, (x_r T).cl, (x_r T).dn, rfl, r, q, rfl, rfl, br.mulW bq (by decide) (by decide) (by decide), ?_⟩
    refine ⟨_, _, rfl, rfl, _, rfl, a, _, dx, _, _, _, _, rfl, ha1, (x_r T).cl, (x_r T).dn, rfl, _, rfl, q, z, rfl, rfl, bq.mulW bs (by decide) (by decide) (by decide), ?_⟩
    exact rd_ratio (Int.mul_ne_zero hq hs) ((bq.mul bs).mono (by decide)) fun c H2 s2 hc => k c H2 (s1.trans s2) hc
end
end Lw
set_option Elab.async false
set_option linter.all false
set_option maxRecDepth 100000
set_option maxHeartbeats 4000000
/-! The other operators of Ratio; kinds of numbers. -/
namespace Lw
open PySem PySem.Spec PyProof.Rows L2 He Wl
section
variable {P : Program} {w : World} {K : PySem.W.Frag} {mg : Str → Option Value} {base : Heap}
theorem ok_Ratio___sub__ (T : TX K mg) : FnR P w K mg base (L2.CX P w) 6 (ma K (ga K "Ratio") "__sub__") (spBin K fSub) := by
  refine fnR_of (T.d 13) sc_Ratio___sub__ (fun vs H Q E h => ?_) (fun _ _ _ _ _ _ us hl => match us, hl with | [_, _], _ => rfl) (fun cdv A outer s H vs Q E hr h => ?_)
  · obtain ⟨a, v, p, q, r, s, rfl, _⟩ := h; rfl
  · obtain ⟨a, v, p, q, r, z, rfl, ⟨dx, ha⟩, hv, bp, bq, br, bs, hq, hs, k⟩ := h
    refine ⟨_, pss_cons (ps_asg (pe_callR (ok_parts T) (hr.mono (by decide)) (T.kg 6) (by rfl) (T.g 3) passL (pa_cons (pv 1) pa_nil)) (pg_tup rfl (pgs_cons (pg_name (i := 2) sc_Ratio___sub__.nd rfl (.inl rfl)) (pgs_cons (pg_name (i := 3) sc_Ratio___sub__.nd rfl (.inl rfl)) pgs_nil)))) (pss_one (ps_ret (pe_ratio2 T (hr.mono (by decide)) (by rfl) (T.g 34) passL (pa_cons (pe_op op_sub (pe_op op_mulW (SlX.pe_sl (pv 0)) (pv 3)) (pe_op op_mulW (pv 2) (SlX.pe_sl (pv 0)))) (pa_cons (pe_op op_mulW (SlX.pe_sl (pv 0)) (pv 3)) pa_nil))))), ?_⟩
    refine ⟨_, rfl, v, r, z, rfl, hv, fun t H1 s1 ht => ⟨t, _, rfl, SqT.of ht, rfl, _, _, rfl, _, _, rfl, rfl, ?_⟩⟩
    have ha1 := slt_same s1 ha
    refine ⟨_, rfl, a, _, dx, _, _, _, _, rfl, ha1, (x_r T).cl, (x_r T).up, rfl, _, rfl, p, z, rfl, rfl, bp.mulW bs (by decide) (by decide) (by decide), ?_⟩
    refine ⟨_, rfl, _, rfl, a, _, dx, _, _, _, _, rfl, ha1, (x_r T).cl, (x_r T).dn, rfl, r, q, rfl, rfl, br.mulW bq (by decide) (by decide) (by decide), ?_⟩
    refine ⟨_, _, rfl, rfl, _, rfl, a, _, dx, _, _, _, _, rfl, ha1, (x_r T).cl, (x_r T).dn, rfl, _, rfl, q, z, rfl, rfl, bq.mulW bs (by decide) (by decide) (by decide), ?_⟩
    exact rd_ratio (Int.mul_ne_zero hq hs) ((bq.mul bs).mono (by decide)) fun c H2 s2 hc => k c H2 (s1.trans s2) hc
theorem ok_Ratio___mul__ (T : TX K mg) : FnR P w K mg base (L2.CX P w) 6 (ma K (ga K "Ratio") "__mul__") (spBin K fMul) := by
  refine fnR_of (T.d 14) sc_Ratio___mul__ (fun vs H Q E h => ?_) (fun _ _ _ _ _ _ us hl => match us, hl with | [_, _], _ => rfl) (fun cdv A outer s H vs Q E hr h => ?_)
  · obtain ⟨a, v, p, q, r, s, rfl, _⟩ := h; rfl
  · obtain ⟨a, v, p, q, r, z, rfl, ⟨dx, ha⟩, hv, bp, bq, br, bs, hq, hs, k⟩ := h
    refine ⟨_, pss_cons (ps_asg (pe_callR (ok_parts T) (hr.mono (by decide)) (T.kg 6) (by rfl) (T.g 3) passL (pa_cons (pv 1) pa_nil)) (pg_tup rfl (pgs_cons (pg_name (i := 2) sc_Ratio___mul__.nd rfl (.inl rfl)) (pgs_cons (pg_name (i := 3) sc_Ratio___mul__.nd rfl (.inl rfl)) pgs_nil)))) (pss_one (ps_ret (pe_ratio2 T (hr.mono (by decide)) (by rfl) (T.g 34) passL (pa_cons (pe_op op_mulW (SlX.pe_sl (pv 0)) (pv 2)) (pa_cons (pe_op op_mulW (SlX.pe_sl (pv 0)) (pv 3)) pa_nil))))), ?_⟩
    refine ⟨_, rfl, v, r, z, rfl, hv, fun t H1 s1 ht => ⟨t, _, rfl, SqT.of ht, rfl, _, _, rfl, _, _, rfl, rfl, ?_⟩⟩
    have ha1 := slt_same s1 ha
    refine ⟨_, rfl, a, _, dx, _, _, _, _, rfl, ha1, (x_r T).cl, (x_r T).up, rfl, _, rfl, p, r, rfl, rfl, bp.mulW br (by decide) (by decide) (by decide), ?_⟩
    refine ⟨_, rfl, a, _, dx, _, _, _, _, rfl, ha1, (x_r T).cl, (x_r T).dn, rfl, _, rfl, q, z, rfl, rfl, bq.mulW bs (by decide) (by decide) (by decide), ?_⟩
    exact rd_ratio (Int.mul_ne_zero hq hs) ((bq.mul bs).mono (by decide)) fun c H2 s2 hc => k c H2 (s1.trans s2) hc
/-- over: by 0 it is refused -/
def spOver (K : PySem.W.Frag) : Sp := fun vs H Q E => ∃ a v p q r s, vs = [.ref a, v] ∧ RatAt (ga K "Ratio") H a p q ∧ NumAt (ga K "Ratio") H v r s ∧ Bd 3000 p ∧ Bd 3000 q ∧ Bd 3000 r ∧ Bd 3000 s ∧ q ≠ 0 ∧ s ≠ 0 ∧
  (r = 0 → ∀ H', Same H H' → E (.ref (ga K "ByZero")) none H') ∧
  (r ≠ 0 → ∀ c H', Same H H' → RatAt (ga K "Ratio") H' c (nrm (p * s) (q * r)).1 (nrm (p * s) (q * r)).2 → Q (.ref c) H')
theorem okd_Ratio_over (T : TX K mg) : FnD P w K mg base 6 (ma K (ga K "Ratio") "over") ["self", "number"] (spOver K) d_Ratio_over.name d_Ratio_over.qual d_Ratio_over.params d_Ratio_over.body d_Ratio_over.scope := by
  refine fnD_of (T.d 15) sc_Ratio_over (fun vs H Q E h => ?_) (fun cdv A outer s H vs Q E hr h => ?_)
  · obtain ⟨a, v, p, q, r, s, rfl, _⟩ := h; rfl
  · obtain ⟨a, v, p, q, r, z, rfl, ⟨dx, ha⟩, hv, bp, bq, br, bs, hq, hs, k0, k1⟩ := h
    refine ⟨_, pss_cons (ps_asg (pe_callR (ok_parts T) (hr.mono (by decide)) (T.kg 6) (by rfl) (T.g 3) passL (pa_cons (pv 1) pa_nil)) (pg_tup rfl (pgs_cons (pg_name (i := 2) sc_Ratio_over.nd rfl (.inl rfl)) (pgs_cons (pg_name (i := 3) sc_Ratio_over.nd rfl (.inl rfl)) pgs_nil)))) (pss_one (ps_ret (pe_ratio2 T (hr.mono (by decide)) (by rfl) (T.g 34) (passes_call (takes_of rfl rfl rfl rfl) (fun _ _ _ _ h => h)) (pa_cons (pe_op op_mulW (SlX.pe_sl (pv 0)) (pv 3)) (pa_cons (pe_op op_mulW (SlX.pe_sl (pv 0)) (pv 2)) pa_nil))))), ?_⟩
    refine ⟨_, rfl, v, r, z, rfl, hv, fun t H1 s1 ht => ⟨t, _, rfl, SqT.of ht, rfl, _, _, rfl, _, _, rfl, rfl, ?_⟩⟩
    have ha1 := slt_same s1 ha
    refine ⟨_, rfl, a, _, dx, _, _, _, _, rfl, ha1, (x_r T).cl, (x_r T).up, rfl, _, rfl, p, z, rfl, rfl, bp.mulW bs (by decide) (by decide) (by decide), ?_⟩
    refine ⟨_, rfl, a, _, dx, _, _, _, _, rfl, ha1, (x_r T).cl, (x_r T).dn, rfl, _, rfl, q, r, rfl, rfl, bq.mulW br (by decide) (by decide) (by decide), ?_⟩
    by_cases hr0 : r = 0
    · exact rd_ratio0 (by rw [hr0, Int.mul_zero]) fun H' s' => k0 hr0 H' (s1.trans s')
    · exact rd_ratio (Int.mul_ne_zero hq hr0) ((bq.mul br).mono (by decide)) fun c H2 s2 hc => k1 hr0 c H2 (s1.trans s2) hc
theorem ok_Ratio_over (T : TX K mg) : FnR P w K mg base (L2.CX P w) 6 (ma K (ga K "Ratio") "over") (spOver K) := (okd_Ratio_over T).r (fun _ _ _ _ _ _ us hl => match us, hl with | [_, _], _ => rfl)
theorem okk_Ratio_over (T : TX K mg) : FnKw P w K mg base 6 (ma K (ga K "Ratio") "over") 1 ["number"] (spOver K) := (okd_Ratio_over T).kw 1 ["number"] rfl (fun _ _ _ _ _ _ us ws h1 h2 => match us, ws, h1, h2 with | [_], [_], _, _ => rfl)
def spNeg (K : PySem.W.Frag) : Sp := fun vs H Q _ => ∃ a p q, vs = [.ref a] ∧ RatAt (ga K "Ratio") H a p q ∧ Bd 8000 q ∧ q ≠ 0 ∧ ∀ c H', Same H H' → RatAt (ga K "Ratio") H' c (nrm (-p) q).1 (nrm (-p) q).2 → Q (.ref c) H'
theorem ok_Ratio___neg__ (T : TX K mg) : FnR P w K mg base (L2.CX P w) 5 (ma K (ga K "Ratio") "__neg__") (spNeg K) := by
  refine fnR_of (T.d 16) sc_Ratio___neg__ (fun vs H Q E h => ?_) (fun _ _ _ _ _ _ us hl => match us, hl with | [_], _ => rfl) (fun cdv A outer s H vs Q E hr h => ?_)
  · obtain ⟨a, p, q, rfl, _⟩ := h; rfl
  · obtain ⟨a, p, q, rfl, ⟨dx, ha⟩, bq, hq, k⟩ := h
    refine ⟨_, pss_one (ps_ret (pe_ratio2 T (hr.mono (by decide)) (by rfl) (T.g 34) passL (pa_cons (pe_un un_neg (SlX.pe_sl (pv 0))) (pa_cons (SlX.pe_sl (pv 0)) pa_nil)))), ?_⟩
    refine ⟨_, rfl, a, _, dx, _, _, _, _, rfl, ha, (x_r T).cl, (x_r T).up, rfl, _, rfl, ?_⟩
    refine ⟨_, rfl, a, _, dx, _, _, _, _, rfl, ha, (x_r T).cl, (x_r T).dn, rfl, ?_⟩
    exact rd_ratio hq bq k
/-- below -/
def spBelow (K : PySem.W.Frag) : Sp := fun vs H Q _ => ∃ a v p q r s, vs = [.ref a, v] ∧ RatAt (ga K "Ratio") H a p q ∧ NumAt (ga K "Ratio") H v r s ∧ Bd 4000 p ∧ Bd 4000 q ∧ Bd 4000 r ∧ Bd 4000 s ∧
  ∀ H', Same H H' → Q (.bl (decide (p * s < r * q))) H'
theorem okd_Ratio_below (T : TX K mg) : FnD P w K mg base 6 (ma K (ga K "Ratio") "below") ["self", "number"] (spBelow K) d_Ratio_below.name d_Ratio_below.qual d_Ratio_below.params d_Ratio_below.body d_Ratio_below.scope := by
  refine fnD_of (T.d 18) sc_Ratio_below (fun vs H Q E h => ?_) (fun cdv A outer s H vs Q E hr h => ?_)
  · obtain ⟨a, v, p, q, r, s, rfl, _⟩ := h; rfl
  · obtain ⟨a, v, p, q, r, z, rfl, ⟨dx, ha⟩, hv, bp, bq, br, bs, k⟩ := h
    refine ⟨_, pss_cons (ps_asg (pe_callR (ok_parts T) (hr.mono (by decide)) (T.kg 6) (by rfl) (T.g 3) passL (pa_cons (pv 1) pa_nil)) (pg_tup rfl (pgs_cons (pg_name (i := 2) sc_Ratio_below.nd rfl (.inl rfl)) (pgs_cons (pg_name (i := 3) sc_Ratio_below.nd rfl (.inl rfl)) pgs_nil)))) (pss_one (ps_ret (pe_cmpR op_lt (pe_op op_mulW (SlX.pe_sl (pv 0)) (pv 3)) (pe_op op_mulW (pv 2) (SlX.pe_sl (pv 0))) (nomark _)))), ?_⟩
    refine ⟨_, rfl, v, r, z, rfl, hv, fun t H1 s1 ht => ⟨t, _, rfl, SqT.of ht, rfl, _, _, rfl, _, _, rfl, rfl, ?_⟩⟩
    have ha1 := slt_same s1 ha
    refine ⟨_, rfl, a, _, dx, _, _, _, _, rfl, ha1, (x_r T).cl, (x_r T).up, rfl, _, rfl, p, z, rfl, rfl, bp.mulW bs (by decide) (by decide) (by decide), ?_⟩
    refine ⟨_, rfl, _, rfl, a, _, dx, _, _, _, _, rfl, ha1, (x_r T).cl, (x_r T).dn, rfl, r, q, rfl, rfl, br.mulW bq (by decide) (by decide) (by decide), ?_⟩
    exact ⟨_, _, rfl, rfl, k H1 s1⟩
theorem ok_Ratio_below (T : TX K mg) : FnR P w K mg base (L2.CX P w) 6 (ma K (ga K "Ratio") "below") (spBelow K) := (okd_Ratio_below T).r (fun _ _ _ _ _ _ us hl => match us, hl with | [_, _], _ => rfl)
theorem okk_Ratio_below (T : TX K mg) : FnKw P w K mg base 6 (ma K (ga K "Ratio") "below") 1 ["number"] (spBelow K) := (okd_Ratio_below T).kw 1 ["number"] rfl (fun _ _ _ _ _ _ us ws h1 h2 => match us, ws, h1, h2 with | [_], [_], _, _ => rfl)
/-- is_number: by the type -/
def numT (K : PySem.W.Frag) (t : Value) : Bool := decide (t = .ref (ga K "Ratio")) || decide (t = .type "int")
def spIsNum (K : PySem.W.Frag) : Sp := fun vs H Q _ => ∃ v t b, vs = [v] ∧ TyY K (ga K "Ratio") v H t ∧ OkT (ga K "Ratio") t ∧ numT K t = b ∧ Q (.bl b) H
theorem okd_is_number (T : TX K mg) : FnD P w K mg base 5 (ga K "is_number") ["value"] (spIsNum K) d_is_number.name d_is_number.qual d_is_number.params d_is_number.body d_is_number.scope := by
  refine fnD_of (T.d 20) sc_is_number (fun vs H Q E h => ?_) (fun cdv A outer s H vs Q E hr h => ?_)
  · obtain ⟨v, t, b, rfl, _⟩ := h; rfl
  · obtain ⟨v, t, b, rfl, ht, ho, rfl, k⟩ := h
    refine ⟨_, pss_one (ps_ret (pe_or (pe_callB (call_isiY (x_r T).cl (x_r T).isi) (by rfl) (T.f 41) (by decide +kernel) (pa_cons (pv 0) (pa_cons (pe_glob (v := .ref (ga K "Ratio")) (by rfl) (T.g 34) rfl) pa_nil))) (pe_one (pe_callR (ok_is_integer T) (hr.mono (by decide)) (T.kg 3) (by rfl) (T.g 0) passL (pa_cons (pv 0) pa_nil))))), ?_⟩
    refine ⟨_, rfl, v, .ref (ga K "Ratio"), t, .ref (ga K "Ratio"), _, rfl, .own _, ht, k_rat T ho, _, rfl, ?_⟩
    refine ite2 (fun hc => ?_) (fun hc => ?_)
    · have e : numT K t = true := by unfold numT; rw [hc]; rfl
      rw [e] at k; exact k
    · have hf : decide (t = Value.ref (ga K "Ratio")) = false := by
        cases q : decide (t = Value.ref (ga K "Ratio")) with
        | false => rfl
        | true => exact absurd q hc
      have e : numT K t = decide (t = .type "int") := by unfold numT; rw [hf]; rfl
      rw [e] at k
      exact ⟨_, rfl, v, t, rfl, ht, ho, k⟩
theorem ok_is_number (T : TX K mg) : FnR P w K mg base (L2.CX P w) 5 (ga K "is_number") (spIsNum K) := (okd_is_number T).r (fun _ _ _ _ _ _ us hl => match us, hl with | [_], _ => rfl)
theorem okk_is_number (T : TX K mg) : FnKw P w K mg base 5 (ga K "is_number") 0 ["value"] (spIsNum K) := (okd_is_number T).kw 0 ["value"] rfl (fun _ _ _ _ _ _ us ws h1 h2 => match us, ws, h1, h2 with | [], [_], _, _ => rfl)
theorem numT_of {R : Addr} {K : PySem.W.Frag} {H : Hp} {v : V} {p q : Int} (h : NumAt (ga K "Ratio") H v p q) : ∃ t, TyY K (ga K "Ratio") v H t ∧ OkT (ga K "Ratio") t ∧ numT K t = true := by
  obtain ⟨t, h1, h2, h3, _⟩ := h.ty (K := K)
  refine ⟨t, h1, h2, ?_⟩
  rcases h3 with rfl | rfl
  · unfold numT; simp
  · unfold numT; simp
/-- == : an odd value is not equal, a number by its parts -/
def spEq (K : PySem.W.Frag) : Sp := fun vs H Q _ => ∃ a v p q, vs = [.ref a, v] ∧ RatAt (ga K "Ratio") H a p q ∧
  ((∃ t, TyY K (ga K "Ratio") v H t ∧ OkT (ga K "Ratio") t ∧ numT K t = false ∧ Q (.bl false) H) ∨
   (∃ r s, NumAt (ga K "Ratio") H v r s ∧ ∀ H', Same H H' → Q (.bl (decide (p = r ∧ q = s))) H'))
theorem ok_Ratio___eq__ (T : TX K mg) : FnR P w K mg base (L2.CX P w) 6 (ma K (ga K "Ratio") "__eq__") (spEq K) := by
  refine fnR_of (T.d 17) sc_Ratio___eq__ (fun vs H Q E h => ?_) (fun _ _ _ _ _ _ us hl => match us, hl with | [_, _], _ => rfl) (fun cdv A outer s H vs Q E hr h => ?_)
  · obtain ⟨a, v, p, q, rfl, _⟩ := h; rfl
  · obtain ⟨a, v, p, q, rfl, ⟨dx, ha⟩, k⟩ := h
    refine ⟨_, pss_cons (ps_if (pt_not (pt_val (pe_callR (ok_is_number T) (hr.mono (by decide)) (T.kg 20) (by rfl) (T.g 5) passL (pa_cons (pv 1) pa_nil)))) (pss_one (ps_ret pe_bl)) (pss_nil)) (pss_one (ps_ret (pe_cmpR (op_eqD hr.units) (pe_tup (pa_cons (SlX.pe_sl (pv 0)) (pa_cons (SlX.pe_sl (pv 0)) pa_nil))) (pe_callR (ok_parts T) (hr.mono (by decide)) (T.kg 6) (by rfl) (T.g 3) passL (pa_cons (pv 1) pa_nil)) (nomark _)))), ?_⟩
    rcases k with ⟨t, ht, ho, hn, k⟩ | ⟨r, z, hv, k⟩
    · exact ⟨_, rfl, v, t, _, rfl, ht, ho, hn, _, rfl, k⟩
    · obtain ⟨t, ht, ho, hn⟩ := numT_of (R := 0) hv
      refine ⟨_, rfl, v, t, _, rfl, ht, ho, hn, _, rfl, ?_⟩
      refine ⟨_, rfl, a, _, dx, _, _, _, _, rfl, ha, (x_r T).cl, (x_r T).up, rfl, _, rfl, a, _, dx, _, _, _, _, rfl, ha, (x_r T).cl, (x_r T).dn, rfl, sz 2, ?_⟩
      intro l nl; generalize he' : upd _ _ _ = H1; obtain ⟨s1, hl⟩ := new_facts nl he'; clear he'
      refine ⟨_, rfl, v, r, z, rfl, hv.same s1, fun t2 H2 s2 ht2 => ?_⟩
      refine ⟨.tuple [.int p, .int q], .tuple [.int r, .int z], .tup (SqT.of (s2 _ _ hl)) (.cons (.int _) (.cons (.int _) .nil)), .tup (SqT.of ht2) (.cons (.int _) (.cons (.int _) .nil)), rfl, rfl, ?_⟩
      have e : PyData.eqv (.tuple [.int p, .int q]) (.tuple [.int r, .int z]) = decide (p = r ∧ q = z) := by
        simp only [PyData.eqv, PyData.eqvAll]
        rw [Bool.eq_iff_iff]; simp
      rw [e]
      exact k H2 (s1.trans s2)
end
end Lw
set_option Elab.async false
set_option linter.all false
set_option maxRecDepth 100000
set_option maxHeartbeats 4000000
/-! Amounts, shares, lists of numbers. -/
namespace Lw
open PySem PySem.Spec PyProof.Rows L2 He Wl
section
variable {P : Program} {w : World} {K : PySem.W.Frag} {mg : Str → Option Value} {base : Heap}
/-- v is of a type that is no number's -/
def Odd (K : PySem.W.Frag) (H : Hp) (v : V) : Prop := ∃ t, TyY K (ga K "Ratio") v H t ∧ OkT (ga K "Ratio") t ∧ numT K t = false
theorem Odd.same {H H' : Hp} {v : V} (s : Same H H') (h : Odd K H v) : Odd K H' v := by
  obtain ⟨t, h1, h2, h3⟩ := h
  exact ⟨t, tyY_same s h1, h2, h3⟩
def spIsAm (K : PySem.W.Frag) (f : Int → Int → Bool) : Sp := fun vs H Q _ => ∃ v, vs = [v] ∧ ((Odd K H v ∧ Q (.bl false) H) ∨ ∃ p q, NumAt (ga K "Ratio") H v p q ∧ ∀ H', Same H H' → Q (.bl (f p q)) H')
abbrev fAm (p _q : Int) : Bool := decide (0 ≤ p)
abbrev fSh (p q : Int) : Bool := decide (0 ≤ p ∧ p ≤ q)
theorem okd_is_amount (T : TX K mg) : FnD P w K mg base 6 (ga K "is_amount") ["value"] (spIsAm K fAm) d_is_amount.name d_is_amount.qual d_is_amount.params d_is_amount.body d_is_amount.scope := by
  refine fnD_of (T.d 21) sc_is_amount (fun vs H Q E h => ?_) (fun cdv A outer s H vs Q E hr h => ?_)
  · obtain ⟨v, rfl, _⟩ := h; rfl
  · obtain ⟨v, rfl, k⟩ := h
    refine ⟨_, pss_one (ps_ret (pe_and (pe_callR (ok_is_number T) (hr.mono (by decide)) (T.kg 20) (by rfl) (T.g 5) passL (pa_cons (pv 0) pa_nil)) (pe_one (pe_cmpR op_ge (pe_ix ix_seq (pe_callR (ok_parts T) (hr.mono (by decide)) (T.kg 6) (by rfl) (T.g 3) passL (pa_cons (pv 0) pa_nil)) pe_int (fun _ _ => rfl)) pe_int (nomark _))))), ?_⟩
    rcases k with ⟨⟨t, ht, ho, hn⟩, k⟩ | ⟨p, q, hv, k⟩
    · exact ⟨_, rfl, v, t, _, rfl, ht, ho, hn, _, rfl, k⟩
    · obtain ⟨t, ht, ho, hn⟩ := numT_of (R := 0) hv
      refine ⟨_, rfl, v, t, _, rfl, ht, ho, hn, _, rfl, ?_⟩
      refine ⟨_, rfl, v, p, q, rfl, hv, fun t1 H1 s1 h1 => ?_⟩
      exact rd_ixT h1 rfl ⟨_, _, rfl, rfl, k H1 s1⟩
theorem ok_is_amount (T : TX K mg) : FnR P w K mg base (L2.CX P w) 6 (ga K "is_amount") (spIsAm K fAm) := (okd_is_amount T).r (fun _ _ _ _ _ _ us hl => match us, hl with | [_], _ => rfl)
theorem okk_is_amount (T : TX K mg) : FnKw P w K mg base 6 (ga K "is_amount") 0 ["value"] (spIsAm K fAm) := (okd_is_amount T).kw 0 ["value"] rfl (fun _ _ _ _ _ _ us ws h1 h2 => match us, ws, h1, h2 with | [], [_], _, _ => rfl)
theorem okd_is_share (T : TX K mg) : FnD P w K mg base 7 (ga K "is_share") ["value"] (spIsAm K fSh) d_is_share.name d_is_share.qual d_is_share.params d_is_share.body d_is_share.scope := by
  refine fnD_of (T.d 22) sc_is_share (fun vs H Q E h => ?_) (fun cdv A outer s H vs Q E hr h => ?_)
  · obtain ⟨v, rfl, _⟩ := h; rfl
  · obtain ⟨v, rfl, k⟩ := h
    refine ⟨_, pss_one (ps_ret (pe_and (pe_callR (ok_is_amount T) (hr.mono (by decide)) (T.kg 21) (by rfl) (T.g 6) passL (pa_cons (pv 0) pa_nil)) (pe_one (pe_cmpR op_le (pe_ix ix_seq (pe_callR (ok_parts T) (hr.mono (by decide)) (T.kg 6) (by rfl) (T.g 3) passL (pa_cons (pv 0) pa_nil)) pe_int (fun _ _ => rfl)) (pe_ix ix_seq (pe_callR (ok_parts T) (hr.mono (by decide)) (T.kg 6) (by rfl) (T.g 3) passL (pa_cons (pv 0) pa_nil)) pe_int (fun _ _ => rfl)) (nomark _))))), ?_⟩
    rcases k with ⟨ho, k⟩ | ⟨p, q, hv, k⟩
    · exact ⟨_, rfl, v, rfl, .inl ⟨ho, _, rfl, k⟩⟩
    · refine ⟨_, rfl, v, rfl, .inr ⟨p, q, hv, fun H1 s1 => ⟨_, rfl, ?_⟩⟩⟩
      refine ite2 (fun hc => ?_) (fun hc => ?_)
      · refine ⟨_, rfl, v, p, q, rfl, hv.same s1, fun t2 H2 s2 h2 => ?_⟩
        refine rd_ixT h2 rfl ?_
        refine ⟨_, rfl, v, p, q, rfl, (hv.same s1).same s2, fun t3 H3 s3 h3 => ?_⟩
        refine rd_ixT h3 rfl ⟨_, _, rfl, rfl, ?_⟩
        have hp : 0 ≤ p := of_decide_eq_true hc
        have e : fSh p q = decide (p ≤ q) := by simp [fSh, hp]
        have k' := k H3 ((s1.trans s2).trans s3)
        rw [e] at k'
        exact k'
      · have hp : ¬ 0 ≤ p := fun z => hc (decide_eq_true z)
        have e : fSh p q = false := by simp [fSh, hp]
        have k' := k H1 s1
        rw [e] at k'
        exact k'
theorem ok_is_share (T : TX K mg) : FnR P w K mg base (L2.CX P w) 7 (ga K "is_share") (spIsAm K fSh) := (okd_is_share T).r (fun _ _ _ _ _ _ us hl => match us, hl with | [_], _ => rfl)
theorem okk_is_share (T : TX K mg) : FnKw P w K mg base 7 (ga K "is_share") 0 ["value"] (spIsAm K fSh) := (okd_is_share T).kw 0 ["value"] rfl (fun _ _ _ _ _ _ us ws h1 h2 => match us, ws, h1, h2 with | [], [_], _, _ => rfl)
/-- as_ratio -/
def spAs (K : PySem.W.Frag) : Sp := fun vs H Q E => ∃ v, vs = [v] ∧ ((Odd K H v ∧ Refused E (ga K "InvalidNumber") H v) ∨
  ∃ p q, NumAt (ga K "Ratio") H v p q ∧ q ≠ 0 ∧ Bd 8000 q ∧ ∀ c H', Same H H' → RatAt (ga K "Ratio") H' c (nrm p q).1 (nrm p q).2 → Q (.ref c) H')
theorem okd_as_ratio (T : TX K mg) : FnD P w K mg base 6 (ga K "as_ratio") ["number"] (spAs K) d_as_ratio.name d_as_ratio.qual d_as_ratio.params d_as_ratio.body d_as_ratio.scope := by
  refine fnD_of (T.d 23) sc_as_ratio (fun vs H Q E h => ?_) (fun cdv A outer s H vs Q E hr h => ?_)
  · obtain ⟨v, rfl, _⟩ := h; rfl
  · obtain ⟨v, rfl, k⟩ := h
    refine ⟨_, pss_cons (ps_if (pt_not (pt_val (pe_callR (ok_is_number T) (hr.mono (by decide)) (T.kg 20) (by rfl) (T.g 5) passL (pa_cons (pv 0) pa_nil)))) (pss_one (ps_raise rfl (takes_of rfl rfl rfl rfl) (pmk_exc (x_in T).o (x_in T).i (ok_InvalidNumber___init__ T) (hr.mono (by decide)) passL (by rfl) (T.g 31) (pa_cons (pv 0) pa_nil)))) (pss_nil)) (pss_cons (ps_asg (pe_callR (ok_parts T) (hr.mono (by decide)) (T.kg 6) (by rfl) (T.g 3) passL (pa_cons (pv 0) pa_nil)) (pg_tup rfl (pgs_cons (pg_name (i := 1) sc_as_ratio.nd rfl (.inl rfl)) (pgs_cons (pg_name (i := 2) sc_as_ratio.nd rfl (.inl rfl)) pgs_nil)))) (pss_one (ps_ret (pe_ratio2 T (hr.mono (by decide)) (by rfl) (T.g 34) passL (pa_cons (pv 1) (pa_cons (pv 2) pa_nil)))))), ?_⟩
    rcases k with ⟨⟨t, ht, ho, hn⟩, k⟩ | ⟨p, q, hv, hq, bq, k⟩
    · exact ⟨_, rfl, v, t, _, rfl, ht, ho, hn, _, rfl, _, rfl, (by simp), rd_exc1 fun d H3 s3 nd hd => k d H3 s3 nd hd⟩
    · obtain ⟨t, ht, ho, hn⟩ := numT_of (R := 0) hv
      refine ⟨_, rfl, v, t, _, rfl, ht, ho, hn, _, rfl, ?_⟩
      refine ⟨_, rfl, v, p, q, rfl, hv, fun t1 H1 s1 h1 => ⟨t1, _, rfl, SqT.of h1, rfl, _, _, rfl, _, _, rfl, rfl, ?_⟩⟩
      exact ⟨_, rfl, _, rfl, rd_ratio hq bq fun c H2 s2 hc => k c H2 (s1.trans s2) hc⟩
theorem ok_as_ratio (T : TX K mg) : FnR P w K mg base (L2.CX P w) 6 (ga K "as_ratio") (spAs K) := (okd_as_ratio T).r (fun _ _ _ _ _ _ us hl => match us, hl with | [_], _ => rfl)
theorem okk_as_ratio (T : TX K mg) : FnKw P w K mg base 6 (ga K "as_ratio") 0 ["number"] (spAs K) := (okd_as_ratio T).kw 0 ["number"] rfl (fun _ _ _ _ _ _ us ws h1 h2 => match us, ws, h1, h2 with | [], [_], _, _ => rfl)
/-- each item's kind is told: bs -/
def Kinds (K : PySem.W.Frag) (H : Hp) (xs : List V) (bs : List Bool) : Prop := bs.length = xs.length ∧ ∀ (i : Nat) (x : V), xs[i]? = some x → ∃ t b, TyY K (ga K "Ratio") x H t ∧ OkT (ga K "Ratio") t ∧ numT K t = b ∧ bs[i]? = some b
/-- need_numbers -/
def spNeed0 (K : PySem.W.Frag) : Sp := fun vs H Q E => ∃ v n, vs = [v, .int n] ∧
  ((∃ t, TyY K (ga K "Ratio") v H t ∧ OkT (ga K "Ratio") t ∧ t ≠ .type "list" ∧ t ≠ .type "tuple" ∧ Refused E (ga K "InvalidNumber") H v) ∨
   ∃ a o xs bs, v = .ref a ∧ H a = some o ∧ SeqO o xs ∧ Kinds K H xs bs ∧ xs.length < 100 ∧
    ((((xs.length : Nat) : Int) < n ∨ bs.all id = false) → Refused E (ga K "InvalidNumber") H v) ∧ (n ≤ ((xs.length : Nat) : Int) → bs.all id = true → ∀ H', Same H H' → Q .non H'))
structure spNeed (K : PySem.W.Frag) (vs : List V) (H : Hp) (Q : VK) (E : XK) : Prop where
  h : spNeed0 K vs H Q E
theorem okT_list : OkT (ga K "Ratio") (.type "list") := .inr ⟨"list", by decide, rfl⟩
theorem okT_tup : OkT (ga K "Ratio") (.type "tuple") := .inr ⟨"tuple", by decide, rfl⟩
theorem seq_ty {H : Hp} {a : Addr} {o : HO} {xs : List V} (h : H a = some o) (ho : SeqO o xs) : ∃ t, TyY K (ga K "Ratio") (.ref a) H t ∧ OkT (ga K "Ratio") t ∧ (t = .type "list" ∨ t = .type "tuple") := by
  rcases ho with rfl | rfl
  · exact ⟨.type "list", .inl (.base (.lst h)), okT_list, .inl rfl⟩
  · exact ⟨.type "tuple", .inl (.base (.tup h)), okT_tup, .inr rfl⟩
theorem okd_need_numbers (T : TX K mg) : FnD P w K mg base 6 (ga K "need_numbers") ["numbers", "fewest"] (spNeed K) d_need_numbers.name d_need_numbers.qual d_need_numbers.params d_need_numbers.body d_need_numbers.scope := by
  refine fnD_of (T.d 24) sc_need_numbers (fun vs H Q E h => ?_) (fun cdv A outer s H vs Q E hr h => ?_)
  · obtain ⟨⟨v, n, rfl, _⟩⟩ := h; rfl
  · obtain ⟨⟨v, n, rfl, k⟩⟩ := h
    refine ⟨_, pss_one (ps_if (PW.pt (pw_or (pt_not (pt_val (pe_callR (ok_is_list T) (hr.mono (by decide)) (T.kg 4) (by rfl) (T.g 1) passL (pa_cons (pv 0) pa_nil)))) (pw_or (pt_cmpR op_lt (pe_callB call_len_seq (by rfl) (T.f 42) (by decide +kernel) (pa_cons (pv 0) pa_nil)) (pv 1) (nomark _)) (pw_or1 (pt_val (pe_callB (cr_any rfl) (by rfl) (T.f 36) (by decide +kernel) (pa_cons (pe_lc (own := [("item", 2)]) (by rfl) sc_need_numbers.nd (pi_seq (pv 0)) (blkOk_by (own := [("item", 2)]) (N := ["numbers", "fewest", "item"]) (sc := defScope s_need_numbers) (by decide +kernel)) (fun _ _ _ _ _ => (pg_name (i := 2) sc_need_numbers.nd rfl (.inl rfl))) (fun _ _ _ _ _ => pts_nil) (fun _ _ _ _ _ => (pe_not (pe_callR (ok_is_number T) (hr.mono (by decide)) (T.kg 20) (by rfl) (T.g 5) passL (pa_cons (pv 2) pa_nil))))) pa_nil))))))) (pss_one (ps_raise rfl (takes_of rfl rfl rfl rfl) (pmk_exc (x_in T).o (x_in T).i (ok_InvalidNumber___init__ T) (hr.mono (by decide)) passL (by rfl) (T.g 31) (pa_cons (pv 0) pa_nil)))) (pss_nil)), ?_⟩
    rcases k with ⟨t, ht, ho, n1, n2, k⟩ | ⟨a, o, xs, bs, rfl, ha, ho, ⟨hl, hk⟩, hb, k0, k1⟩
    · refine ⟨_, rfl, v, t, rfl, ht, ho, fun H1 s1 => ⟨_, rfl, ?_⟩⟩
      have e : (decide (t = Value.type "list") || decide (t = Value.type "tuple")) = false := by simp [n1, n2]
      rw [e]
      exact ⟨_, rfl, (by simp), rd_exc1 fun d H3 s3 nd hd => k d H3 (s1.trans s3) (s1.free nd) hd⟩
    · obtain ⟨t, ht, hot, hty⟩ := seq_ty (K := K) ha ho
      refine ⟨_, rfl, .ref a, t, rfl, ht, hot, fun H1 s1 => ⟨_, rfl, ?_⟩⟩
      have e : (decide (t = Value.type "list") || decide (t = Value.type "tuple")) = true := by
        rcases hty with rfl | rfl <;> simp
      rw [e]
      refine ⟨_, rfl, a, xs, rfl, ho.sq (s1 _ _ ha), _, rfl, _, _, rfl, rfl, _, rfl, ?_⟩
      refine ite2 (fun hc => ?_) (fun hc => ?_)
      · have hn : ((xs.length : Nat) : Int) < n := of_decide_eq_true hc
        exact ⟨_, rfl, (by simp), rd_exc1 fun d H3 s3 nd hd => k0 (.inl hn) d H3 (s1.trans s3) (s1.free nd) hd⟩
      · have hn : n ≤ ((xs.length : Nat) : Int) := by
          have := hc
          simp only [decide_eq_true_eq] at this
          omega
        refine rd_seqV rfl ho (s1 _ _ ha) fun J W => ?_
        intro D nD
        refine lc_it W (fun i H2 => Same H1 H2 ∧ H2 D = some (.lst ((bs.take i).map fun b => V.bl (!b)))) ⟨same_new nD, upd_same⟩ (fun i H2 _ h2 => h2.1 _ _ (s1 _ _ ha)) ?_ ?_
        · rintro i x H2 _ hi ⟨s2, hD⟩ ⟨rfl, hx⟩
          obtain ⟨tx, b, h1, h2, h3, h4⟩ := hk i x hx
          refine ⟨rfl, ?_⟩
          refine ⟨_, rfl, x, tx, b, rfl, tyY_same (s1.trans s2) h1, h2, h3, _, rfl, ?_⟩
          refine ⟨_, hD, ?_, ?_, ?_⟩
          · simp only [List.length_map, List.length_take]
            exact Nat.lt_of_lt_of_le (show _ < 100 by omega) (sz 100)
          · exact same_upd nD s2
          · rw [upd_same, List.take_add_one, h4]
            simp
        · rintro H2 ⟨s2, hD⟩
          rw [← hl, List.take_length] at hD
          refine ⟨D, bs.map (!·), rfl, SqL.of (by rw [hD, List.map_map]; rfl), _, rfl, ?_⟩
          refine ite2 (fun hc => ?_) (fun hc => ?_)
          · have hb0 : bs.all id = false := by
              simpa [List.any_map] using hc
            exact ⟨_, rfl, (by simp), rd_exc1 fun d H3 s3 nd hd => k0 (.inr hb0) d H3 ((s1.trans s2).trans s3) ((s1.trans s2).free nd) hd⟩
          · have hb1 : bs.all id = true := by
              simpa [List.any_map] using hc
            exact k1 hn hb1 H2 (s1.trans s2)
theorem ok_need_numbers (T : TX K mg) : FnR P w K mg base (L2.CX P w) 6 (ga K "need_numbers") (spNeed K) := (okd_need_numbers T).r (fun _ _ _ _ _ _ us hl => match us, hl with | [_, _], _ => rfl)
/-- a list or a tuple of numbers stands at a: the pairs ps -/
structure Nums (R : Addr) (H : Hp) (a : Addr) (o : HO) (xs : List V) (ps : List (Int × Int)) : Prop where
  at_ : H a = some o
  ho : SeqO o xs
  len : ps.length = xs.length
  num : ∀ (i : Nat) (x : V), xs[i]? = some x → ∃ p q, ps[i]? = some (p, q) ∧ NumAt R H x p q
theorem Nums.same {R : Addr} {H H' : Hp} {a : Addr} {o : HO} {xs : List V} {ps : List (Int × Int)} (s : Same H H') (h : Nums R H a o xs ps) : Nums R H' a o xs ps :=
  ⟨s _ _ h.at_, h.ho, h.len, fun i x hx => let ⟨p, q, e, n⟩ := h.num i x hx; ⟨p, q, e, n.same s⟩⟩
theorem Nums.kinds {H : Hp} {a : Addr} {o : HO} {xs : List V} {ps : List (Int × Int)} (h : Nums (ga K "Ratio") H a o xs ps) : Kinds K H xs (xs.map fun _ => true) := by
  refine ⟨by simp, fun i x hx => ?_⟩
  obtain ⟨p, q, _, hn⟩ := h.num i x hx
  obtain ⟨t, h1, h2, h3⟩ := numT_of (R := 0) hn
  exact ⟨t, true, h1, h2, h3, by simp [hx]⟩
theorem Nums.need {H : Hp} {a : Addr} {o : HO} {xs : List V} {ps : List (Int × Int)} {n : Int} {Q : VK} {E : XK} (h : Nums (ga K "Ratio") H a o xs ps) (hl : xs.length < 100) (hn : n ≤ ((xs.length : Nat) : Int)) (k : ∀ H', Same H H' → Q .non H') : spNeed K [.ref a, .int n] H Q E := by
  refine ⟨.ref a, n, rfl, .inr ⟨a, o, xs, xs.map fun _ => true, rfl, h.at_, h.ho, h.kinds, hl, fun z => ?_, fun _ _ => k⟩⟩
  rcases z with z | z
  · omega
  · have : (xs.map fun _ => true).all id = true := by simp
    rw [this] at z; cases z
end
end Lw
set_option Elab.async false
set_option linter.all false
set_option maxRecDepth 100000
set_option maxHeartbeats 4000000
/-! Sums, the least and the greatest. -/
namespace Lw
open PySem PySem.Spec PyProof.Rows L2 He Wl
/-! ### plain -/
abbrev Pr := Int × Int
def addF (a b : Pr) : Pr := nrm (a.1 * b.2 + b.1 * a.2) (a.2 * b.2)
def subF (a b : Pr) : Pr := nrm (a.1 * b.2 - b.1 * a.2) (a.2 * b.2)
def mulF (a b : Pr) : Pr := nrm (a.1 * b.1) (a.2 * b.2)
def ovF (a b : Pr) : Pr := nrm (a.1 * b.2) (a.2 * b.1)
def lessF (a b : Pr) : Bool := decide (a.1 * b.2 < b.1 * a.2)
def totI (ps : List Pr) : Nat → Pr
  | 0 => (0, 1)
  | i + 1 => addF (totI ps i) (ps.getD i (0, 1))
def lowI (ps : List Pr) : Nat → Nat
  | 0 => 0
  | i + 1 => if lessF (ps.getD i (0, 1)) (ps.getD (lowI ps i) (0, 1)) = true then i else lowI ps i
def highI (ps : List Pr) : Nat → Nat
  | 0 => 0
  | i + 1 => if lessF (ps.getD (highI ps i) (0, 1)) (ps.getD i (0, 1)) = true then i else highI ps i
/-- a number in lowest terms, not too long -/
def Fine (a : Pr) : Prop := Low a.1 a.2 ∧ Bd 101 a.1 ∧ Bd 101 a.2
theorem totI_ok (ps : List Pr) (h : ∀ p ∈ ps, Fine p) : ∀ i, i ≤ ps.length → Low (totI ps i).1 (totI ps i).2 ∧ Bd (110 * (i + 1)) (totI ps i).1 ∧ Bd (110 * (i + 1)) (totI ps i).2
  | 0, _ => by
    refine ⟨low_one 0, ?_, ?_⟩
    · show (0 : Nat) < 2 ^ 110; decide
    · show (1 : Nat) < 2 ^ 110; decide
  | i + 1, hi => by
    obtain ⟨h1, h2, h3⟩ := totI_ok ps h i (Nat.le_of_succ_le hi)
    have hg : ps[i]? = some (ps[i]'(by omega)) := by simp [show i < ps.length by omega]
    have hd : ps.getD i (0, 1) = ps[i]'(by omega) := by simp [List.getD, hg]
    obtain ⟨g1, g2, g3⟩ := h _ (List.getElem_mem (h := (by omega : i < ps.length)))
    rw [← hd] at g1 g2 g3
    have hne : (totI ps i).2 * (ps.getD i (0, 1)).2 ≠ 0 := Int.mul_ne_zero h1.ne g1.ne
    refine ⟨nrm_low hne, ?_, ?_⟩
    · refine Bd.le (Bd.mono (((h2.mul g3).mono (Nat.le_refl _)).add ((g2.mul h3).mono (by omega))) ?_) (nrm_le1 hne)
      omega
    · refine Bd.le (Bd.mono (h3.mul g3) ?_) (nrm_le2 hne)
      omega
theorem lowI_lt {ps : List Pr} : ∀ i, i ≤ ps.length → 0 < ps.length → lowI ps i < ps.length
  | 0, _, h => h
  | i + 1, hi, h => by
    unfold lowI
    split
    · omega
    · exact lowI_lt i (by omega) h
theorem highI_lt {ps : List Pr} : ∀ i, i ≤ ps.length → 0 < ps.length → highI ps i < ps.length
  | 0, _, h => h
  | i + 1, hi, h => by
    unfold highI
    split
    · omega
    · exact highI_lt i (by omega) h
section
variable {P : Program} {w : World} {K : PySem.W.Frag} {mg : Str → Option Value} {base : Heap}
theorem spNeed.mono {vs : List V} {H : Hp} {Q Q' : VK} {E : XK} (h : spNeed K vs H Q E) (k : ∀ v H', Q v H' → Q' v H') : spNeed K vs H Q' E := by
  obtain ⟨v, n, e, h⟩ := h
  refine ⟨v, n, e, ?_⟩
  rcases h with h | ⟨a, o, xs, bs, h1, h2, h3, h4, h5, h6, h7⟩
  · exact .inl h
  · exact .inr ⟨a, o, xs, bs, h1, h2, h3, h4, h5, h6, fun a b H' s => k _ _ (h7 a b H' s)⟩
theorem Nums.get {R : Addr} {H : Hp} {a : Addr} {o : HO} {xs : List V} {ps : List (Int × Int)} (h : Nums R H a o xs ps) {i : Nat} (hi : i < ps.length) : ∃ x, xs[i]? = some x ∧ NumAt R H x (ps.getD i (0, 1)).1 (ps.getD i (0, 1)).2 ∧ ps.getD i (0, 1) ∈ ps := by
  have hx : xs[i]? = some (xs[i]'(by have := h.len; omega)) := by simp [show i < xs.length by have := h.len; omega]
  obtain ⟨p, q, e, hn⟩ := h.num i _ hx
  refine ⟨_, hx, ?_, ?_⟩
  · simp [List.getD, e]; exact hn
  · simp [List.getD, e]; exact List.mem_of_getElem? e
/-- total -/
def spTotal (K : PySem.W.Frag) : Sp := fun vs H Q E => ∃ v, vs = [v] ∧ (spNeed K [v, .int 0] H (fun _ _ => False) E ∨ ∃ a o xs ps, v = .ref a ∧ Nums (ga K "Ratio") H a o xs ps ∧ xs.length ≤ 20 ∧ (∀ p ∈ ps, Fine p) ∧
  ∀ c H', Same H H' → RatAt (ga K "Ratio") H' c (totI ps ps.length).1 (totI ps ps.length).2 → Q (.ref c) H')
theorem okd_total (T : TX K mg) : FnD P w K mg base 7 (ga K "total") ["numbers"] (spTotal K) d_total.name d_total.qual d_total.params d_total.body d_total.scope := by
  refine fnD_of (T.d 25) sc_total (fun vs H Q E h => ?_) (fun cdv A outer s H vs Q E hr h => ?_)
  · obtain ⟨v, rfl, _⟩ := h; rfl
  · obtain ⟨v, rfl, k⟩ := h
    refine ⟨_, pss_cons (ps_expr (pe_callR (ok_need_numbers T) (hr.mono (by decide)) (T.kg 24) (by rfl) (T.g 9) (passes_call (takes_of rfl rfl rfl rfl) (fun _ _ _ _ h => h)) (pa_cons (pv 0) (pa_cons pe_int pa_nil)))) (pss_cons (ps_set (i := 1) sc_total.nd rfl (.inl rfl) (pe_ratio1 T (hr.mono (by decide)) (by rfl) (T.g 34) passL (pa_cons pe_int pa_nil))) (pss_cons (ps_for (passes_of rfl) rfl (pi_seq (pv 0)) (pg_name (i := 2) sc_total.nd rfl (.inl rfl)) (pss_one (ps_set (i := 1) sc_total.nd rfl (.inl rfl) (pe_op (op_binSl (nm := "add") rfl (x_r T).add (ok_Ratio___add__ T) (hr.mono (by decide)) passL) (pv 1) (pv 2))))) (pss_one (ps_ret (pv 1))))), ?_⟩
    rcases k with k | ⟨a, o, xs, ps, rfl, N, hl, hf, k⟩
    · exact ⟨_, rfl, k.mono fun _ _ z => z.elim⟩
    · refine ⟨_, rfl, N.need (by omega) (by omega) fun H1 s1 => ?_⟩
      refine rd_ratio1 fun c H2 s2 hc => ?_
      refine rd_seqV rfl N.ho ((s1.trans s2) _ _ N.at_) fun J W => ?_
      refine for_it W (fun i σ H3 => Same H H3 ∧ ∃ b z, σ = [some (.ref a), some (.ref b), z] ∧ RatAt (ga K "Ratio") H3 b (totI ps i).1 (totI ps i).2) ⟨s1.trans s2, c, none, rfl, hc⟩ (fun i σ H3 _ h3 => h3.1 _ _ N.at_) ?_ ?_
      · rintro i x σ H3 _ hi ⟨s3, b, z, rfl, dx, hb⟩ ⟨rfl, hx⟩
        have N3 := N.same s3
        have hi' : i < ps.length := by have := N.len; omega
        obtain ⟨x', hx', hn, hm⟩ := N3.get hi'
        rw [hx] at hx'; cases hx'
        obtain ⟨l1, b1, b2⟩ := totI_ok ps hf i (Nat.le_of_lt hi')
        obtain ⟨l2, b3, b4⟩ := hf _ hm
        refine ⟨_, rfl, _, rfl, b, dx, _, rfl, hb, hn.like, b, x, _, _, _, _, rfl, ⟨dx, hb⟩, hn, b1.mono (by omega), b2.mono (by omega), b3.mono (by omega), b4.mono (by omega), l1.ne, l2.ne, fun c' H4 s4 hc' => ?_⟩
        exact ⟨s3.trans s4, c', _, rfl, hc'⟩
      · rintro σ H3 ⟨s3, b, z, rfl, hb⟩
        rw [← N.len] at hb
        exact ⟨_, rfl, k b H3 s3 hb⟩
theorem ok_total (T : TX K mg) : FnR P w K mg base (L2.CX P w) 7 (ga K "total") (spTotal K) := (okd_total T).r (fun _ _ _ _ _ _ us hl => match us, hl with | [_], _ => rfl)
theorem okk_total (T : TX K mg) : FnKw P w K mg base 7 (ga K "total") 0 ["numbers"] (spTotal K) := (okd_total T).kw 0 ["numbers"] rfl (fun _ _ _ _ _ _ us ws h1 h2 => match us, ws, h1, h2 with | [], [_], _, _ => rfl)
/-- least, greatest: the place -/
def spPlace (K : PySem.W.Frag) (f : List Pr → Nat → Nat) : Sp := fun vs H Q E => ∃ v, vs = [v] ∧ (spNeed K [v, .int 1] H (fun _ _ => False) E ∨ ∃ a o xs ps, v = .ref a ∧ Nums (ga K "Ratio") H a o xs ps ∧ 0 < xs.length ∧ xs.length ≤ 20 ∧ (∀ p ∈ ps, Fine p) ∧
  ∀ H', Same H H' → Q (.int (f ps ps.length : Nat)) H')
theorem okd_least (T : TX K mg) : FnD P w K mg base 7 (ga K "least") ["numbers"] (spPlace K lowI) d_least.name d_least.qual d_least.params d_least.body d_least.scope := by
  refine fnD_of (T.d 26) sc_least (fun vs H Q E h => ?_) (fun cdv A outer s H vs Q E hr h => ?_)
  · obtain ⟨v, rfl, _⟩ := h; rfl
  · obtain ⟨v, rfl, k⟩ := h
    refine ⟨_, pss_cons (ps_expr (pe_callR (ok_need_numbers T) (hr.mono (by decide)) (T.kg 24) (by rfl) (T.g 9) (passes_call (takes_of rfl rfl rfl rfl) (fun _ _ _ _ h => h)) (pa_cons (pv 0) (pa_cons pe_int pa_nil)))) (pss_cons (ps_set (i := 1) sc_least.nd rfl (.inl rfl) pe_int) (pss_cons (ps_for (passes_of rfl) rfl (pi_enumS (by rfl) (T.f 39) (pa_cons (pv 0) pa_nil)) (pg_tup rfl (pgs_cons (pg_name (i := 2) sc_least.nd rfl (.inl rfl)) (pgs_cons (pg_name (i := 3) sc_least.nd rfl (.inl rfl)) pgs_nil))) (pss_one (ps_if (pt_val (SlX.pe_methSl (pe_callR (ok_as_ratio T) (hr.mono (by decide)) (T.kg 23) (by rfl) (T.g 8) passL (pa_cons (pv 3) pa_nil)) (x_r T).cl (x_r T).below (ok_Ratio_below T) (hr.mono (by decide)) passL (pa_cons (pe_ix ix_seq (pv 0) (pv 1) (fun _ _ => rfl)) pa_nil))) (pss_one (ps_set (i := 1) sc_least.nd rfl (.inl rfl) (pv 2))) (pss_nil)))) (pss_one (ps_ret (pv 1))))), ?_⟩
    rcases k with k | ⟨a, o, xs, ps, rfl, N, hl0, hl, hf, k⟩
    · exact ⟨_, rfl, k.mono fun _ _ z => z.elim⟩
    · refine ⟨_, rfl, N.need (by omega) (by omega) fun H1 s1 => ?_⟩
      refine rd_enumV rfl N.ho (s1 _ _ N.at_) fun J W => ?_
      refine for_it W (fun i σ H3 => Same H H3 ∧ ∃ z1 z2, σ = [some (.ref a), some (.int (lowI ps i : Nat)), z1, z2]) ⟨s1, none, none, rfl⟩ (fun i σ H3 _ h3 => h3.1 _ _ N.at_) ?_ ?_
      · rintro i x σ H3 _ hi ⟨s3, z1, z2, rfl⟩ ⟨t, x1, x2, rfl, nt, rfl, e1, hx⟩
        cases e1
        have hx : xs[i]? = some x2 := hx
        have s4 : Same H (upd H3 t (.tup [.int (i : Nat), x2])) := s3.trans (same_new nt)
        have N4 := N.same s4
        have hi' : i < ps.length := by have := N.len; omega
        obtain ⟨x', hx', hn, hm⟩ := N4.get hi'
        rw [hx] at hx'; cases hx'
        have hp := lowI_lt (ps := ps) i (Nat.le_of_lt hi') (by omega)
        obtain ⟨y, hy, hny, hmy⟩ := N4.get hp
        obtain ⟨l2, b3, b4⟩ := hf _ hm
        obtain ⟨l3, b5, b6⟩ := hf _ hmy
        refine ⟨t, _, rfl, SqT.of upd_same, rfl, _, _, rfl, _, _, rfl, rfl, ?_⟩
        refine ⟨_, rfl, x2, rfl, .inr ⟨_, _, hn, l2.ne, b4.mono (by decide), fun c H5 s5 hc => ?_⟩⟩
        rw [nrm_of_low l2] at hc
        obtain ⟨dc, hc⟩ := hc
        refine ⟨c, dc, _, rfl, hc, _, rfl, _, rfl, rd_ixO (s5 _ _ N4.at_) N4.ho (atI_nat hy) ?_⟩
        refine ⟨c, y, _, _, _, _, rfl, ⟨dc, hc⟩, hny.same s5, b3.mono (by decide), b4.mono (by decide), b5.mono (by decide), b6.mono (by decide), fun H6 s6 => ⟨_, rfl, ?_⟩⟩
        have s7 := (s4.trans s5).trans s6
        refine ite2 (fun hc => ?_) (fun hc => ?_)
        · refine ⟨_, rfl, s7, some (.int (i : Nat)), some x2, ?_⟩
          have e : lowI ps (i + 1) = i := by
            exact if_pos hc
          rw [e]; rfl
        · refine ⟨s7, some (.int (i : Nat)), some x2, ?_⟩
          have e : lowI ps (i + 1) = lowI ps i := by
            exact if_neg hc
          rw [e]; rfl
      · rintro σ H3 ⟨s3, z1, z2, rfl⟩
        have k' := k H3 s3
        rw [N.len] at k'
        exact ⟨_, rfl, k'⟩
theorem ok_least (T : TX K mg) : FnR P w K mg base (L2.CX P w) 7 (ga K "least") (spPlace K lowI) := (okd_least T).r (fun _ _ _ _ _ _ us hl => match us, hl with | [_], _ => rfl)
theorem okk_least (T : TX K mg) : FnKw P w K mg base 7 (ga K "least") 0 ["numbers"] (spPlace K lowI) := (okd_least T).kw 0 ["numbers"] rfl (fun _ _ _ _ _ _ us ws h1 h2 => match us, ws, h1, h2 with | [], [_], _, _ => rfl)
theorem okd_greatest (T : TX K mg) : FnD P w K mg base 7 (ga K "greatest") ["numbers"] (spPlace K highI) d_greatest.name d_greatest.qual d_greatest.params d_greatest.body d_greatest.scope := by
  refine fnD_of (T.d 27) sc_greatest (fun vs H Q E h => ?_) (fun cdv A outer s H vs Q E hr h => ?_)
  · obtain ⟨v, rfl, _⟩ := h; rfl
  · obtain ⟨v, rfl, k⟩ := h
    refine ⟨_, pss_cons (ps_expr (pe_callR (ok_need_numbers T) (hr.mono (by decide)) (T.kg 24) (by rfl) (T.g 9) (passes_call (takes_of rfl rfl rfl rfl) (fun _ _ _ _ h => h)) (pa_cons (pv 0) (pa_cons pe_int pa_nil)))) (pss_cons (ps_set (i := 1) sc_greatest.nd rfl (.inl rfl) pe_int) (pss_cons (ps_for (passes_of rfl) rfl (pi_enumS (by rfl) (T.f 39) (pa_cons (pv 0) pa_nil)) (pg_tup rfl (pgs_cons (pg_name (i := 2) sc_greatest.nd rfl (.inl rfl)) (pgs_cons (pg_name (i := 3) sc_greatest.nd rfl (.inl rfl)) pgs_nil))) (pss_one (ps_if (pt_val (SlX.pe_methSl (pe_callR (ok_as_ratio T) (hr.mono (by decide)) (T.kg 23) (by rfl) (T.g 8) passL (pa_cons (pe_ix ix_seq (pv 0) (pv 1) (fun _ _ => rfl)) pa_nil)) (x_r T).cl (x_r T).below (ok_Ratio_below T) (hr.mono (by decide)) passL (pa_cons (pv 3) pa_nil))) (pss_one (ps_set (i := 1) sc_greatest.nd rfl (.inl rfl) (pv 2))) (pss_nil)))) (pss_one (ps_ret (pv 1))))), ?_⟩
    rcases k with k | ⟨a, o, xs, ps, rfl, N, hl0, hl, hf, k⟩
    · exact ⟨_, rfl, k.mono fun _ _ z => z.elim⟩
    · refine ⟨_, rfl, N.need (by omega) (by omega) fun H1 s1 => ?_⟩
      refine rd_enumV rfl N.ho (s1 _ _ N.at_) fun J W => ?_
      refine for_it W (fun i σ H3 => Same H H3 ∧ ∃ z1 z2, σ = [some (.ref a), some (.int (highI ps i : Nat)), z1, z2]) ⟨s1, none, none, rfl⟩ (fun i σ H3 _ h3 => h3.1 _ _ N.at_) ?_ ?_
      · rintro i x σ H3 _ hi ⟨s3, z1, z2, rfl⟩ ⟨t, x1, x2, rfl, nt, rfl, e1, hx⟩
        cases e1
        have hx : xs[i]? = some x2 := hx
        have s4 : Same H (upd H3 t (.tup [.int (i : Nat), x2])) := s3.trans (same_new nt)
        have N4 := N.same s4
        have hi' : i < ps.length := by have := N.len; omega
        obtain ⟨x', hx', hn, hm⟩ := N4.get hi'
        rw [hx] at hx'; cases hx'
        have hp := highI_lt (ps := ps) i (Nat.le_of_lt hi') (by omega)
        obtain ⟨y, hy, hny, hmy⟩ := N4.get hp
        obtain ⟨l2, b3, b4⟩ := hf _ hm
        obtain ⟨l3, b5, b6⟩ := hf _ hmy
        refine ⟨t, _, rfl, SqT.of upd_same, rfl, _, _, rfl, _, _, rfl, rfl, ?_⟩
        refine ⟨_, rfl, _, rfl, rd_ixO N4.at_ N4.ho (atI_nat hy) ?_⟩
        refine ⟨y, rfl, .inr ⟨_, _, hny, l3.ne, b6.mono (by decide), fun c H5 s5 hc => ?_⟩⟩
        rw [nrm_of_low l3] at hc
        obtain ⟨dc, hc⟩ := hc
        refine ⟨c, dc, _, rfl, hc, _, rfl, ?_⟩
        refine ⟨c, x2, _, _, _, _, rfl, ⟨dc, hc⟩, hn.same s5, b5.mono (by decide), b6.mono (by decide), b3.mono (by decide), b4.mono (by decide), fun H6 s6 => ⟨_, rfl, ?_⟩⟩
        have s7 := (s4.trans s5).trans s6
        refine ite2 (fun hc => ?_) (fun hc => ?_)
        · refine ⟨_, rfl, s7, some (.int (i : Nat)), some x2, ?_⟩
          have e : highI ps (i + 1) = i := by
            exact if_pos hc
          rw [e]; rfl
        · refine ⟨s7, some (.int (i : Nat)), some x2, ?_⟩
          have e : highI ps (i + 1) = highI ps i := by
            exact if_neg hc
          rw [e]; rfl
      · rintro σ H3 ⟨s3, z1, z2, rfl⟩
        have k' := k H3 s3
        rw [N.len] at k'
        exact ⟨_, rfl, k'⟩
theorem ok_greatest (T : TX K mg) : FnR P w K mg base (L2.CX P w) 7 (ga K "greatest") (spPlace K highI) := (okd_greatest T).r (fun _ _ _ _ _ _ us hl => match us, hl with | [_], _ => rfl)
theorem okk_greatest (T : TX K mg) : FnKw P w K mg base 7 (ga K "greatest") 0 ["numbers"] (spPlace K highI) := (okd_greatest T).kw 0 ["numbers"] rfl (fun _ _ _ _ _ _ us ws h1 h2 => match us, ws, h1, h2 with | [], [_], _, _ => rfl)
end
end Lw
set_option Elab.async false
set_option linter.all false
set_option maxRecDepth 100000
set_option maxHeartbeats 4000000
/-! The law's small defs: cells, bags, pairs. -/
namespace Lw
open PySem PySem.Spec PyProof.Rows L2 He Wl
theorem mulS {i j : Int} (ha : i.natAbs < 2 ^ 64) (hb : j.natAbs < 2 ^ 64) : CMulW i j := wide_mul ha hb (by decide) (by decide) (by decide)
/-- a bag stands at b; at most n things were mixed -/
def Bag (H : Hp) (b : Addr) (n : Int) : Prop := ∃ w0 w1 c, H b = some (.lst [.int w0, .int w1, .int c]) ∧ 0 ≤ w0 ∧ 0 ≤ w1 ∧ w1 < 2147483629 ∧ 0 ≤ c ∧ c ≤ n
theorem Bag.same {H H' : Hp} {b : Addr} {n : Int} (s : Same H H') (h : Bag H b n) : Bag H' b n := by
  obtain ⟨w0, w1, c, e, r⟩ := h
  exact ⟨w0, w1, c, s _ _ e, r⟩
theorem Bag.mono {H : Hp} {b : Addr} {m n : Int} (h : Bag H b m) (l : m ≤ n) : Bag H b n := by
  obtain ⟨w0, w1, c, e, h1, h2, h3, h4, h5⟩ := h
  exact ⟨w0, w1, c, e, h1, h2, h3, h4, by omega⟩
/-- what is no list stays -/
theorem sb_keep {H H' : Hp} {b x : Addr} {n : Int} {o : HO} (s : SB b H H') (hb : Bag H b n) (h : H x = some o) (ho : ∀ l, o ≠ .lst l) : H' x = some o := by
  obtain ⟨w0, w1, c, e, _⟩ := hb
  refine s x o h fun z => ?_
  rw [z, e] at h
  exact ho _ (Option.some.inj h).symm
theorem sb_rat {H H' : Hp} {b a R : Addr} {n p q : Int} (s : SB b H H') (hb : Bag H b n) (h : RatAt R H a p q) : RatAt R H' a p q := by
  obtain ⟨dx, h⟩ := h
  refine ⟨dx, ?_⟩
  rcases h with ⟨h1, h2⟩ | ⟨h1, h2⟩
  · exact .inl ⟨sb_keep s hb h1 (fun l z => nomatch z), h2⟩
  · exact .inr ⟨sb_keep s hb h1 (fun l z => nomatch z), sb_keep s hb h2 (fun l z => nomatch z)⟩
theorem sb_num {H H' : Hp} {b R : Addr} {v : V} {n p q : Int} (s : SB b H H') (hb : Bag H b n) (h : NumAt R H v p q) : NumAt R H' v p q := by
  rcases h with h | ⟨a, e, h⟩
  · exact .inl h
  · exact .inr ⟨a, e, sb_rat s hb h⟩
abbrev tupP (p : Pr) : HO := .tup [.int p.1, .int p.2]
theorem sb_pair {H H' : Hp} {b x : Addr} {n : Int} {p : Pr} (s : SB b H H') (hb : Bag H b n) (h : H x = some (tupP p)) : H' x = some (tupP p) := sb_keep s hb h (fun l z => nomatch z)
section
variable {P : Program} {w : World} {K : PySem.W.Frag} {mg : Str → Option Value} {base : Heap}
/-- a cell of the script: any int -/
def spCell (K : PySem.W.Frag) : Sp := fun vs H Q _ => ∃ (a : Addr) (ns : List Int) (j : Nat), vs = [.ref a, .int j] ∧ SqL K H a (ns.map V.int) ∧ j < 100 ∧ ∀ c, Q (.int c) H
theorem okd__law_cell (T : TX K mg) : FnD P w K mg base 1 (ga K "_law_cell") ["_law_script", "_law_index"] (spCell K) d__law_cell.name d__law_cell.qual d__law_cell.params d__law_cell.body d__law_cell.scope := by
  refine fnD_of (T.d 28) sc__law_cell (fun vs H Q E h => ?_) (fun cdv A outer s H vs Q E hr h => ?_)
  · obtain ⟨a, ns, j, rfl, _⟩ := h; rfl
  · obtain ⟨a, ns, j, rfl, ha, hj, k⟩ := h
    refine ⟨_, pss_cons (ps_if (pt_cmpR op_lt (pv 1) (pe_callB call_len_seq (by rfl) (T.f 42) (by decide +kernel) (pa_cons (pv 0) pa_nil)) (nomark _)) (pss_one (ps_ret (pe_ix ix_seq (pv 0) (pv 1) (fun _ _ => rfl)))) (pss_nil)) (pss_one (ps_ret (pe_op op_add (pe_op op_mulW pe_int (pv 1)) pe_int))), ?_⟩
    refine ⟨_, rfl, _, rfl, a, _, rfl, .inl ha, _, _, rfl, rfl, _, rfl, ?_⟩
    refine ite2 (fun hc => ?_) (fun hc => ?_)
    · have hl : j < ns.length := by
        have := of_decide_eq_true hc
        simp only [List.length_map] at this
        omega
      refine ⟨_, rfl, _, rfl, .inl ⟨a, _, _, _, rfl, rfl, ha, atI_cell hl, k _⟩⟩
    · refine ⟨_, rfl, _, _, rfl, rfl, mulS (by decide) (by omega), _, _, rfl, rfl, k _⟩
theorem ok__law_cell (T : TX K mg) : FnR P w K mg base (L2.CX P w) 1 (ga K "_law_cell") (spCell K) := (okd__law_cell T).r (fun _ _ _ _ _ _ us hl => match us, hl with | [_, _], _ => rfl)
def spBag : Sp := fun vs H Q _ => ∃ c, vs = [.int c] ∧ ∀ b H', Same H H' → H b = none → Bag H' b 0 → Q (.ref b) H'
theorem okd__law_bag (T : TX K mg) : FnD P w K mg base 1 (ga K "_law_bag") ["_law_cell_here"] spBag d__law_bag.name d__law_bag.qual d__law_bag.params d__law_bag.body d__law_bag.scope := by
  refine fnD_of (T.d 29) sc__law_bag (fun vs H Q E h => ?_) (fun cdv A outer s H vs Q E hr h => ?_)
  · obtain ⟨c, rfl, _⟩ := h; rfl
  · obtain ⟨c, rfl, k⟩ := h
    refine ⟨_, pss_one (ps_ret (pe_lst (pa_cons (pe_callB (call_max2 rfl) (by rfl) (T.f 44) (by decide +kernel) (pa_cons pe_int (pa_cons (pe_op op_sub (pv 0) (pe_op op_pow pe_int pe_int)) pa_nil))) (pa_cons (pe_op op_mod (pv 0) pe_int) (pa_cons pe_int pa_nil))))), ?_⟩
    refine ⟨_, rfl, _, _, rfl, rfl, ⟨by decide, by decide, by decide⟩, _, _, rfl, rfl, _, _, rfl, ?_⟩
    refine ⟨_, rfl, _, _, rfl, rfl, (by show (0 : Int) < _; decide), sz 3, ?_⟩
    intro l nl; generalize he' : upd _ _ _ = H1; obtain ⟨s1, hl⟩ := new_facts nl he'; clear he'
    refine k l H1 s1 nl ⟨_, _, _, hl, ?_, ?_, ?_, by decide, by decide⟩
    · split <;> omega
    · exact Int.emod_nonneg _ (by decide)
    · exact Int.emod_lt_of_pos _ (by decide)
theorem ok__law_bag (T : TX K mg) : FnR P w K mg base (L2.CX P w) 1 (ga K "_law_bag") spBag := (okd__law_bag T).r (fun _ _ _ _ _ _ us hl => match us, hl with | [_], _ => rfl)
/-- a digit below m -/
def spTake : Sp := fun vs H Q _ => ∃ b n m, vs = [.ref b, .int m] ∧ Bag H b n ∧ n ≤ 100000 ∧ 0 < m ∧ Bd 8000 m ∧ ∀ r H', 0 ≤ r → r < m → SB b H H' → Bag H' b (n + 1) → Q (.int r) H'
theorem okd__law_take (T : TX K mg) : FnD P w K mg base 1 (ga K "_law_take") ["_law_bag_here", "_law_many"] spTake d__law_take.name d__law_take.qual d__law_take.params d__law_take.body d__law_take.scope := by
  refine fnD_of (T.d 30) sc__law_take (fun vs H Q E h => ?_) (fun cdv A outer s H vs Q E hr h => ?_)
  · obtain ⟨b, n, m, rfl, _⟩ := h; rfl
  · obtain ⟨b, n, m, rfl, ⟨w0, w1, c, hb, h0, h1, h2, h3, h4⟩, hn, hm, bm, k⟩ := h
    refine ⟨_, pss_cons (ps_if (pt_cmpR op_gt (pe_ix ix_seq (pv 0) pe_int (fun _ _ => rfl)) pe_int (nomark _)) (pss_cons (ps_set (i := 2) sc__law_take.nd rfl (.inl rfl) (pe_op op_mod (pe_ix ix_seq (pv 0) pe_int (fun _ _ => rfl)) (pv 1))) (pss_cons (ps_asg (pe_op op_fdivW (pe_ix ix_seq (pv 0) pe_int (fun _ _ => rfl)) (pv 1)) (pg_sub (pv 0) pe_int set_list)) (pss_one (ps_ret (pv 2))))) (pss_nil)) (pss_cons (ps_asg (pe_op op_add (pe_ix ix_seq (pv 0) pe_int (fun _ _ => rfl)) pe_int) (pg_sub (pv 0) pe_int set_list)) (pss_cons (ps_set (i := 3) sc__law_take.nd rfl (.inl rfl) (pe_op op_mod (pe_op op_pow (pe_op op_add (pe_op op_add (pe_ix ix_seq (pv 0) pe_int (fun _ _ => rfl)) (pe_op op_mulW pe_int (pe_ix ix_seq (pv 0) pe_int (fun _ _ => rfl)))) pe_int) pe_int) pe_int)) (pss_cons (ps_set (i := 3) sc__law_take.nd rfl (.inl rfl) (pe_op op_mod (pe_op op_pow (pe_op op_add (pv 3) (pe_op op_mulW pe_int (pe_ix ix_seq (pv 0) pe_int (fun _ _ => rfl)))) pe_int) pe_int)) (pss_one (ps_ret (pe_op op_mod (pe_op op_fdivW (pv 3) pe_int) (pv 1))))))), ?_⟩
    refine ⟨_, rfl, rd_ixL hb rfl ?_⟩
    refine ⟨_, _, rfl, rfl, _, rfl, ?_⟩
    have hlm : m.natAbs.log2 < 9000 := Nat.lt_of_lt_of_le (PySem.Flt.log2_lt_of (by decide) bm) (by decide)
    refine ite2 (fun hc => ?_) (fun hc => ?_)
    · have hw : 0 < w0 := of_decide_eq_true hc
      refine ⟨_, rfl, rd_ixL hb rfl ⟨_, rfl, _, _, rfl, rfl, hm, ?_⟩⟩
      refine ⟨_, rfl, rd_ixL hb rfl ⟨_, rfl, _, _, rfl, rfl, ⟨hm, hlm⟩, ?_⟩⟩
      refine ⟨_, rfl, b, _, _, _, rfl, rfl, hb, rfl, ?_⟩
      refine ⟨_, rfl, k _ _ (Int.emod_nonneg _ (by omega)) (Int.emod_lt_of_pos _ hm) SB.upd ⟨_, _, _, upd_same, Int.ediv_nonneg h0 (by omega), h1, h2, h3, by omega⟩⟩
    · have hw : w0 = 0 := by
        have : ¬ 0 < w0 := fun z => hc (decide_eq_true z)
        omega
      refine ⟨_, rfl, rd_ixL hb rfl ⟨_, _, rfl, rfl, _, rfl, b, _, _, _, rfl, rfl, hb, rfl, ?_⟩⟩
      generalize hH1 : upd H b _ = H1
      have hb1 : H1 b = some (.lst [.int w0, .int w1, .int (c + 1)]) := by rw [← hH1]; exact upd_same
      have sb : SB b H H1 := by rw [← hH1]; exact SB.upd
      refine ⟨_, rfl, rd_ixL hb1 rfl ⟨_, rfl, rd_ixL hb1 rfl ⟨_, _, rfl, rfl, mulS (by decide) (by omega), _, _, rfl, rfl, _, _, rfl, rfl, ?_⟩⟩⟩
      refine ⟨_, _, rfl, rfl, ⟨by decide, by decide, by omega⟩, _, _, rfl, rfl, (by show (0 : Int) < _; decide), ?_⟩
      generalize hM : (w1 + 49979687 * (c + 1) + 827) ^ (5 : Int).toNat % 2147483647 = M
      have hM0 : 0 ≤ M := by rw [← hM]; exact Int.emod_nonneg _ (by decide)
      have hM1 : M < 2147483647 := by rw [← hM]; exact Int.emod_lt_of_pos _ (by decide)
      refine ⟨_, rfl, _, rfl, rd_ixL hb1 rfl ⟨_, _, rfl, rfl, mulS (by decide) (by omega), _, _, rfl, rfl, ?_⟩⟩
      refine ⟨_, _, rfl, rfl, ⟨by decide, by decide, by omega⟩, _, _, rfl, rfl, (by show (0 : Int) < _; decide), ?_⟩
      refine ⟨_, rfl, _, _, rfl, rfl, ⟨by decide, by decide⟩, _, rfl, _, _, rfl, rfl, hm, ?_⟩
      exact k _ _ (Int.emod_nonneg _ (by omega)) (Int.emod_lt_of_pos _ hm) sb ⟨_, _, _, hb1, h0, h1, h2, by omega, by omega⟩
theorem ok__law_take (T : TX K mg) : FnR P w K mg base (L2.CX P w) 1 (ga K "_law_take") spTake := (okd__law_take T).r (fun _ _ _ _ _ _ us hl => match us, hl with | [_, _], _ => rfl)
end
end Lw
set_option Elab.async false
set_option linter.all false
set_option maxRecDepth 100000
set_option maxHeartbeats 4000000
/-! The law's pairs. -/
namespace Lw
open PySem PySem.Spec PyProof.Rows L2 He Wl
section
variable {P : Program} {w : World} {K : PySem.W.Frag} {mg : Str → Option Value} {base : Heap}
/-- a new pair -/
def NewP (H : Hp) (Q : VK) (p : Pr) : Prop := ∀ t H', Same H H' → H' t = some (tupP p) → Q (.ref t) H'
structure SpFrac (vs : List V) (H : Hp) (Q : VK) (E : XK) : Prop where
  h : ∃ u d : Int, vs = [.int u, .int d] ∧ d ≠ 0 ∧ Bd 8000 d ∧ NewP H Q (nrm u d)
theorem okd__law_frac (T : TX K mg) : FnD P w K mg base 1 (ga K "_law_frac") ["_law_up", "_law_down"] SpFrac d__law_frac.name d__law_frac.qual d__law_frac.params d__law_frac.body d__law_frac.scope := by
  refine fnD_of (T.d 31) sc__law_frac (fun vs H Q E h => ?_) (fun cdv A outer s H vs Q E hr h => ?_)
  · obtain ⟨u, d, rfl, _⟩ := h; rfl
  · obtain ⟨u, d, rfl, hd, bd, k⟩ := h
    refine ⟨_, pss_cons (ps_par (by rfl) sc__law_frac.nd (i := 2) (j := 3) rfl rfl (by decide) rfl rfl (pa_cons (pe_callB call_abs (by rfl) (T.f 35) (by decide +kernel) (pa_cons (pv 0) pa_nil)) (pa_cons (pe_callB call_abs (by rfl) (T.f 35) (by decide +kernel) (pa_cons (pv 1) pa_nil)) pa_nil)) (by rfl)) (pss_cons (ps_while (passes_of rfl) (pt_cmpR op_ne (pv 3) pe_int (nomark _)) (pss_one (ps_par (by rfl) sc__law_frac.nd (i := 2) (j := 3) rfl rfl (by decide) rfl rfl (pa_cons (pv 3) (pa_cons (pe_op op_modN (pv 2) (pv 3)) pa_nil)) (by rfl)))) (pss_cons (ps_set (i := 2) sc__law_frac.nd rfl (.inl rfl) (pe_ifExp (pt_cmpR op_gt (pv 1) pe_int (nomark _)) (pv 2) (pe_un un_neg (pv 2)))) (pss_one (ps_ret (pe_tup (pa_cons (pe_op op_fdivNW (pv 0) (pv 2)) (pa_cons (pe_op op_fdivNW (pv 1) (pv 2)) pa_nil))))))), ?_⟩
    refine ⟨_, rfl, _, rfl, _, rfl, _, rfl, _, _, rfl, ?_⟩
    refine ⟨fun m σ H' => H' = H ∧ ∃ x y : Int, σ = [some (.int u), some (.int d), some (.int x), some (.int y)] ∧ m = y.natAbs ∧ Int.gcd x y = Int.gcd u d ∧ 0 ≤ x ∧ 0 ≤ y, ⟨_, rfl, _, _, rfl, rfl, ?_, ?_, ?_⟩, ?_⟩
    · have e : ∀ a : Int, (if a < 0 then -a else a) = ((a.natAbs : Nat) : Int) := fun a => by split <;> omega
      rw [e, e]; simp [Int.gcd]
    · split <;> omega
    · split <;> omega
    rintro m σ H' ⟨rfl, x, y, rfl, rfl, hg, hx0, hy0⟩
    refine ⟨_, rfl, rfl, _, rfl, ?_⟩
    refine ite2 (fun hc => ?_) (fun hc => ?_)
    · have hy : y ≠ 0 := by intro z; subst z; simp at hc
      refine ⟨fun σ' H'' => H'' = H' ∧ σ' = [some (.int u), some (.int d), some (.int y), some (.int (x.fmod y))], ?_, ?_⟩
      · rintro σ' H'' ⟨rfl, rfl⟩
        exact ⟨(x.fmod y).natAbs, fmod_natAbs_lt x hy, rfl, y, _, rfl, rfl, (gcd_fmod x y).trans hg, hy0, Int.fmod_nonneg_of_pos x (by omega)⟩
      · exact ⟨_, rfl, _, rfl, _, rfl, _, _, rfl, rfl, hy, _, _, rfl, rfl, rfl⟩
    · have hy : y = 0 := by
        by_cases z : y = 0
        · exact z
        · exact absurd (by simp [z]) hc
      subst hy
      have ex : x = ((Int.gcd u d : Nat) : Int) := by
        rw [← hg, Int.gcd_zero_right]; omega
      have hlg : Bd 8000 (gsg u d) := bd.le (gsg_le hd)
      have hl2 : (gsg u d).natAbs.log2 < 9000 := Nat.lt_of_lt_of_le (PySem.Flt.log2_lt_of (by decide) hlg) (by decide)
      refine ⟨_, rfl, _, _, rfl, rfl, _, rfl, ?_⟩
      have rest : ∀ g : Int, g = gsg u d → (tRet (tTup (tCons (tOp (rI CDivNW fun i j => V.int (i.fdiv j)) (tVar 0) (tVar 2)) (tCons (tOp (rI CDivNW fun i j => V.int (i.fdiv j)) (tVar 1) (tVar 2)) tNil)))) { nx := fun _ H' => Q .non H', rt := Q } [some (.int u), some (.int d), some (.int g), some (.int 0)] H' := by
        rintro g rfl
        refine ⟨_, rfl, _, rfl, _, _, rfl, rfl, ⟨gsg_ne hd, hl2⟩, _, rfl, _, rfl, _, _, rfl, rfl, ⟨gsg_ne hd, hl2⟩, sz 2, ?_⟩
        intro l nl; generalize he' : upd _ _ _ = H1; obtain ⟨s1, hl⟩ := new_facts nl he'; clear he'
        exact k l H1 s1 hl
      refine ite2 (fun hc => ?_) (fun hc => ?_)
      · have hd0 : 0 < d := of_decide_eq_true hc
        exact ⟨_, rfl, rest _ (by unfold gsg; rw [if_pos hd0]; exact ex)⟩
      · have hd0 : ¬ 0 < d := fun h => hc (decide_eq_true h)
        exact ⟨_, rfl, _, rfl, rest _ (by unfold gsg; rw [if_neg hd0, ex])⟩
theorem ok__law_frac (T : TX K mg) : FnR P w K mg base (L2.CX P w) 1 (ga K "_law_frac") SpFrac := (okd__law_frac T).r (fun _ _ _ _ _ _ us hl => match us, hl with | [_, _], _ => rfl)
theorem rd_frac {H : Hp} {Q : VK} {E : XK} {u d : Int} (hd : d ≠ 0) (bd : Bd 8000 d) (k : NewP H Q (nrm u d)) : SpFrac [.int u, .int d] H Q E := ⟨u, d, rfl, hd, bd, k⟩
/-- a pair's size -/
def Okp (p : Pr) : Prop := p.2 ≠ 0 ∧ Bd 3000 p.1 ∧ Bd 3000 p.2
theorem Fine.ok {p : Pr} (h : Fine p) : Okp p := ⟨h.1.ne, h.2.1.mono (by decide), h.2.2.mono (by decide)⟩
structure SpPl (f : Pr → Pr → Pr) (c : Pr → Prop) (vs : List V) (H : Hp) (Q : VK) (E : XK) : Prop where
  h : ∃ x y p q, vs = [.ref x, .ref y] ∧ H x = some (tupP p) ∧ H y = some (tupP q) ∧ Okp p ∧ Okp q ∧ c q ∧ NewP H Q (f p q)
theorem rd_pl {f : Pr → Pr → Pr} {c : Pr → Prop} {x y : Addr} {p q : Pr} {H : Hp} {Q : VK} {E : XK} (hx : H x = some (tupP p)) (hy : H y = some (tupP q)) (op : Okp p) (oq : Okp q) (cq : c q) (k : NewP H Q (f p q)) : SpPl f c [.ref x, .ref y] H Q E := ⟨x, y, p, q, rfl, hx, hy, op, oq, cq, k⟩
def cAny (_ : Pr) : Prop := True
def cNz (q : Pr) : Prop := q.1 ≠ 0
theorem okd__law_plus (T : TX K mg) : FnD P w K mg base 2 (ga K "_law_plus") ["_law_x", "_law_y"] (SpPl addF cAny) d__law_plus.name d__law_plus.qual d__law_plus.params d__law_plus.body d__law_plus.scope := by
  refine fnD_of (T.d 32) sc__law_plus (fun vs H Q E h => ?_) (fun cdv A outer s H vs Q E hr h => ?_)
  · obtain ⟨x, y, p, q, rfl, _⟩ := h; rfl
  · obtain ⟨x, y, p, q, rfl, hx, hy, ⟨hp, bp, bp2⟩, ⟨hq, bq, bq2⟩, _, k⟩ := h
    refine ⟨_, pss_one (ps_ret (pe_callR (ok__law_frac T) (hr.mono (by decide)) (T.kg 31) (by rfl) (T.g 16) passL (pa_cons (pe_op op_add (pe_op op_mulW (pe_ix ix_seq (pv 0) pe_int (fun _ _ => rfl)) (pe_ix ix_seq (pv 1) pe_int (fun _ _ => rfl))) (pe_op op_mulW (pe_ix ix_seq (pv 1) pe_int (fun _ _ => rfl)) (pe_ix ix_seq (pv 0) pe_int (fun _ _ => rfl)))) (pa_cons (pe_op op_mulW (pe_ix ix_seq (pv 0) pe_int (fun _ _ => rfl)) (pe_ix ix_seq (pv 1) pe_int (fun _ _ => rfl))) pa_nil)))), ?_⟩
    refine ⟨_, rfl, rd_ixT hx rfl ⟨_, rfl, rd_ixT hy rfl ⟨_, _, rfl, rfl, bp.mulW bq2 (by decide) (by decide) (by decide), ?_⟩⟩⟩
    refine ⟨_, rfl, rd_ixT hy rfl ⟨_, rfl, rd_ixT hx rfl ⟨_, _, rfl, rfl, bq.mulW bp2 (by decide) (by decide) (by decide), _, _, rfl, rfl, ?_⟩⟩⟩
    refine ⟨_, rfl, rd_ixT hx rfl ⟨_, rfl, rd_ixT hy rfl ⟨_, _, rfl, rfl, bp2.mulW bq2 (by decide) (by decide) (by decide), ?_⟩⟩⟩
    exact rd_frac (Int.mul_ne_zero hp hq) ((bp2.mul bq2).mono (by decide)) k
theorem ok__law_plus (T : TX K mg) : FnR P w K mg base (L2.CX P w) 2 (ga K "_law_plus") (SpPl addF cAny) := (okd__law_plus T).r (fun _ _ _ _ _ _ us hl => match us, hl with | [_, _], _ => rfl)
theorem okd__law_minus (T : TX K mg) : FnD P w K mg base 2 (ga K "_law_minus") ["_law_x", "_law_y"] (SpPl subF cAny) d__law_minus.name d__law_minus.qual d__law_minus.params d__law_minus.body d__law_minus.scope := by
  refine fnD_of (T.d 33) sc__law_minus (fun vs H Q E h => ?_) (fun cdv A outer s H vs Q E hr h => ?_)
  · obtain ⟨x, y, p, q, rfl, _⟩ := h; rfl
  · obtain ⟨x, y, p, q, rfl, hx, hy, ⟨hp, bp, bp2⟩, ⟨hq, bq, bq2⟩, _, k⟩ := h
    refine ⟨_, pss_one (ps_ret (pe_callR (ok__law_frac T) (hr.mono (by decide)) (T.kg 31) (by rfl) (T.g 16) passL (pa_cons (pe_op op_sub (pe_op op_mulW (pe_ix ix_seq (pv 0) pe_int (fun _ _ => rfl)) (pe_ix ix_seq (pv 1) pe_int (fun _ _ => rfl))) (pe_op op_mulW (pe_ix ix_seq (pv 1) pe_int (fun _ _ => rfl)) (pe_ix ix_seq (pv 0) pe_int (fun _ _ => rfl)))) (pa_cons (pe_op op_mulW (pe_ix ix_seq (pv 0) pe_int (fun _ _ => rfl)) (pe_ix ix_seq (pv 1) pe_int (fun _ _ => rfl))) pa_nil)))), ?_⟩
    refine ⟨_, rfl, rd_ixT hx rfl ⟨_, rfl, rd_ixT hy rfl ⟨_, _, rfl, rfl, bp.mulW bq2 (by decide) (by decide) (by decide), ?_⟩⟩⟩
    refine ⟨_, rfl, rd_ixT hy rfl ⟨_, rfl, rd_ixT hx rfl ⟨_, _, rfl, rfl, bq.mulW bp2 (by decide) (by decide) (by decide), _, _, rfl, rfl, ?_⟩⟩⟩
    refine ⟨_, rfl, rd_ixT hx rfl ⟨_, rfl, rd_ixT hy rfl ⟨_, _, rfl, rfl, bp2.mulW bq2 (by decide) (by decide) (by decide), ?_⟩⟩⟩
    exact rd_frac (Int.mul_ne_zero hp hq) ((bp2.mul bq2).mono (by decide)) k
theorem ok__law_minus (T : TX K mg) : FnR P w K mg base (L2.CX P w) 2 (ga K "_law_minus") (SpPl subF cAny) := (okd__law_minus T).r (fun _ _ _ _ _ _ us hl => match us, hl with | [_, _], _ => rfl)
theorem okd__law_times (T : TX K mg) : FnD P w K mg base 2 (ga K "_law_times") ["_law_x", "_law_y"] (SpPl mulF cAny) d__law_times.name d__law_times.qual d__law_times.params d__law_times.body d__law_times.scope := by
  refine fnD_of (T.d 34) sc__law_times (fun vs H Q E h => ?_) (fun cdv A outer s H vs Q E hr h => ?_)
  · obtain ⟨x, y, p, q, rfl, _⟩ := h; rfl
  · obtain ⟨x, y, p, q, rfl, hx, hy, ⟨hp, bp, bp2⟩, ⟨hq, bq, bq2⟩, _, k⟩ := h
    refine ⟨_, pss_one (ps_ret (pe_callR (ok__law_frac T) (hr.mono (by decide)) (T.kg 31) (by rfl) (T.g 16) passL (pa_cons (pe_op op_mulW (pe_ix ix_seq (pv 0) pe_int (fun _ _ => rfl)) (pe_ix ix_seq (pv 1) pe_int (fun _ _ => rfl))) (pa_cons (pe_op op_mulW (pe_ix ix_seq (pv 0) pe_int (fun _ _ => rfl)) (pe_ix ix_seq (pv 1) pe_int (fun _ _ => rfl))) pa_nil)))), ?_⟩
    refine ⟨_, rfl, rd_ixT hx rfl ⟨_, rfl, rd_ixT hy rfl ⟨_, _, rfl, rfl, bp.mulW bq (by decide) (by decide) (by decide), ?_⟩⟩⟩
    refine ⟨_, rfl, rd_ixT hx rfl ⟨_, rfl, rd_ixT hy rfl ⟨_, _, rfl, rfl, bp2.mulW bq2 (by decide) (by decide) (by decide), ?_⟩⟩⟩
    exact rd_frac (Int.mul_ne_zero hp hq) ((bp2.mul bq2).mono (by decide)) k
theorem ok__law_times (T : TX K mg) : FnR P w K mg base (L2.CX P w) 2 (ga K "_law_times") (SpPl mulF cAny) := (okd__law_times T).r (fun _ _ _ _ _ _ us hl => match us, hl with | [_, _], _ => rfl)
theorem okd__law_over (T : TX K mg) : FnD P w K mg base 2 (ga K "_law_over") ["_law_x", "_law_y"] (SpPl ovF cNz) d__law_over.name d__law_over.qual d__law_over.params d__law_over.body d__law_over.scope := by
  refine fnD_of (T.d 35) sc__law_over (fun vs H Q E h => ?_) (fun cdv A outer s H vs Q E hr h => ?_)
  · obtain ⟨x, y, p, q, rfl, _⟩ := h; rfl
  · obtain ⟨x, y, p, q, rfl, hx, hy, ⟨hp, bp, bp2⟩, ⟨hq, bq, bq2⟩, hz, k⟩ := h
    refine ⟨_, pss_one (ps_ret (pe_callR (ok__law_frac T) (hr.mono (by decide)) (T.kg 31) (by rfl) (T.g 16) passL (pa_cons (pe_op op_mulW (pe_ix ix_seq (pv 0) pe_int (fun _ _ => rfl)) (pe_ix ix_seq (pv 1) pe_int (fun _ _ => rfl))) (pa_cons (pe_op op_mulW (pe_ix ix_seq (pv 0) pe_int (fun _ _ => rfl)) (pe_ix ix_seq (pv 1) pe_int (fun _ _ => rfl))) pa_nil)))), ?_⟩
    refine ⟨_, rfl, rd_ixT hx rfl ⟨_, rfl, rd_ixT hy rfl ⟨_, _, rfl, rfl, bp.mulW bq2 (by decide) (by decide) (by decide), ?_⟩⟩⟩
    refine ⟨_, rfl, rd_ixT hx rfl ⟨_, rfl, rd_ixT hy rfl ⟨_, _, rfl, rfl, bp2.mulW bq (by decide) (by decide) (by decide), ?_⟩⟩⟩
    exact rd_frac (Int.mul_ne_zero hp hz) ((bp2.mul bq).mono (by decide)) k
theorem ok__law_over (T : TX K mg) : FnR P w K mg base (L2.CX P w) 2 (ga K "_law_over") (SpPl ovF cNz) := (okd__law_over T).r (fun _ _ _ _ _ _ us hl => match us, hl with | [_, _], _ => rfl)
def spLess : Sp := fun vs H Q _ => ∃ x y p q, vs = [.ref x, .ref y] ∧ H x = some (tupP p) ∧ H y = some (tupP q) ∧ Okp p ∧ Okp q ∧ Q (.bl (lessF p q)) H
theorem okd__law_less (T : TX K mg) : FnD P w K mg base 1 (ga K "_law_less") ["_law_x", "_law_y"] spLess d__law_less.name d__law_less.qual d__law_less.params d__law_less.body d__law_less.scope := by
  refine fnD_of (T.d 36) sc__law_less (fun vs H Q E h => ?_) (fun cdv A outer s H vs Q E hr h => ?_)
  · obtain ⟨x, y, p, q, rfl, _⟩ := h; rfl
  · obtain ⟨x, y, p, q, rfl, hx, hy, ⟨hp, bp, bp2⟩, ⟨hq, bq, bq2⟩, k⟩ := h
    refine ⟨_, pss_one (ps_ret (pe_cmpR op_lt (pe_op op_mulW (pe_ix ix_seq (pv 0) pe_int (fun _ _ => rfl)) (pe_ix ix_seq (pv 1) pe_int (fun _ _ => rfl))) (pe_op op_mulW (pe_ix ix_seq (pv 1) pe_int (fun _ _ => rfl)) (pe_ix ix_seq (pv 0) pe_int (fun _ _ => rfl))) (nomark _))), ?_⟩
    refine ⟨_, rfl, rd_ixT hx rfl ⟨_, rfl, rd_ixT hy rfl ⟨_, _, rfl, rfl, bp.mulW bq2 (by decide) (by decide) (by decide), ?_⟩⟩⟩
    exact ⟨_, rfl, rd_ixT hy rfl ⟨_, rfl, rd_ixT hx rfl ⟨_, _, rfl, rfl, bq.mulW bp2 (by decide) (by decide) (by decide), _, _, rfl, rfl, k⟩⟩⟩
theorem ok__law_less (T : TX K mg) : FnR P w K mg base (L2.CX P w) 1 (ga K "_law_less") spLess := (okd__law_less T).r (fun _ _ _ _ _ _ us hl => match us, hl with | [_, _], _ => rfl)
structure SpTold (K : PySem.W.Frag) (vs : List V) (H : Hp) (Q : VK) (E : XK) : Prop where
  h : ∃ a p q, vs = [.ref a] ∧ RatAt (ga K "Ratio") H a p q ∧ NewP H Q (p, q)
theorem rd_told {a : Addr} {p q : Int} {H : Hp} {Q : VK} {E : XK} (ha : RatAt (ga K "Ratio") H a p q) (k : NewP H Q (p, q)) : SpTold K [.ref a] H Q E := ⟨a, p, q, rfl, ha, k⟩
theorem okd__law_told (T : TX K mg) : FnD P w K mg base 3 (ga K "_law_told") ["_law_figure"] (SpTold K) d__law_told.name d__law_told.qual d__law_told.params d__law_told.body d__law_told.scope := by
  refine fnD_of (T.d 37) sc__law_told (fun vs H Q E h => ?_) (fun cdv A outer s H vs Q E hr h => ?_)
  · obtain ⟨a, p, q, rfl, _⟩ := h; rfl
  · obtain ⟨a, p, q, rfl, ⟨dx, ha⟩, k⟩ := h
    refine ⟨_, pss_one (ps_ret (pe_tup (pa_cons (pe_prp (x_r T).cl (x_r T).ptop (ok_Ratio_top T) (hr.mono (by decide)) (pv 0)) (pa_cons (pe_prp (x_r T).cl (x_r T).pbot (ok_Ratio_bottom T) (hr.mono (by decide)) (pv 0)) pa_nil)))), ?_⟩
    refine ⟨_, rfl, a, dx, _, rfl, ha, a, p, q, rfl, ⟨dx, ha⟩, ?_⟩
    refine ⟨_, rfl, a, dx, _, rfl, ha, a, p, q, rfl, ⟨dx, ha⟩, sz 2, ?_⟩
    intro l nl; generalize he' : upd _ _ _ = H1; obtain ⟨s1, hl⟩ := new_facts nl he'; clear he'
    exact k l H1 s1 hl
theorem ok__law_told (T : TX K mg) : FnR P w K mg base (L2.CX P w) 3 (ga K "_law_told") (SpTold K) := (okd__law_told T).r (fun _ _ _ _ _ _ us hl => match us, hl with | [_], _ => rfl)
structure SpWhole (vs : List V) (H : Hp) (Q : VK) (E : XK) : Prop where
  h : ∃ b n, vs = [.ref b] ∧ Bag H b n ∧ n ≤ 90000 ∧ ∀ (r : Int) H', Bd 100 r → SB b H H' → Bag H' b (n + 5) → Q (.int r) H'
theorem rd_take {b : Addr} {n m : Int} {H : Hp} {Q : VK} {E : XK} (hb : Bag H b n) (hn : n ≤ 100000) (hm : 0 < m) (bm : Bd 8000 m) (k : ∀ r H', 0 ≤ r → r < m → SB b H H' → Bag H' b (n + 1) → Q (.int r) H') : spTake [.ref b, .int m] H Q E := ⟨b, n, m, rfl, hb, hn, hm, bm, k⟩
theorem bd_of {n : Nat} {x : Int} (h : x.natAbs < 2 ^ n) : Bd n x := h
theorem bdS {x : Int} (h : x.natAbs < 2 ^ 100) : Bd 8000 x := Bd.mono h (by decide)
theorem okd__law_whole (T : TX K mg) : FnD P w K mg base 2 (ga K "_law_whole") ["_law_bag_here"] SpWhole d__law_whole.name d__law_whole.qual d__law_whole.params d__law_whole.body d__law_whole.scope := by
  refine fnD_of (T.d 38) sc__law_whole (fun vs H Q E h => ?_) (fun cdv A outer s H vs Q E hr h => ?_)
  · obtain ⟨b, n, rfl, _⟩ := h; rfl
  · obtain ⟨b, n, rfl, hb, hn, k⟩ := h
    refine ⟨_, pss_cons (ps_set (i := 1) sc__law_whole.nd rfl (.inl rfl) (pe_callR (ok__law_take T) (hr.mono (by decide)) (T.kg 30) (by rfl) (T.g 15) passL (pa_cons (pv 0) (pa_cons pe_int pa_nil)))) (pss_cons (ps_set (i := 2) sc__law_whole.nd rfl (.inl rfl) (pe_lst (pa_cons (pe_op op_sub (pe_callR (ok__law_take T) (hr.mono (by decide)) (T.kg 30) (by rfl) (T.g 15) passL (pa_cons (pv 0) (pa_cons pe_int pa_nil))) pe_int) (pa_cons (pe_op op_sub (pe_callR (ok__law_take T) (hr.mono (by decide)) (T.kg 30) (by rfl) (T.g 15) passL (pa_cons (pv 0) (pa_cons pe_int pa_nil))) pe_int) (pa_cons (pe_callR (ok__law_take T) (hr.mono (by decide)) (T.kg 30) (by rfl) (T.g 15) passL (pa_cons (pv 0) (pa_cons (pe_op op_pow pe_int pe_int) pa_nil))) (pa_cons (pe_op op_sub (pe_op op_pow pe_int pe_int) pe_int) (pa_cons pe_int (pa_cons pe_int pa_nil)))))))) (pss_one (ps_ret (pe_op op_mulW (pe_ix ix_seq (pv 2) (pv 1) (fun _ _ => rfl)) (pe_ix ix_seq (pe_lst (pa_cons pe_int (pa_cons (pe_un un_neg pe_int) pa_nil))) (pe_callR (ok__law_take T) (hr.mono (by decide)) (T.kg 30) (by rfl) (T.g 15) passL (pa_cons (pv 0) (pa_cons pe_int pa_nil))) (fun _ _ => rfl)))))), ?_⟩
    refine ⟨_, rfl, b, n, _, rfl, hb, by omega, by decide, bdS (by decide), fun r H1 r0 r1 s1 hb1 => ?_⟩
    refine ⟨_, rfl, b, _, _, rfl, hb1, by omega, by decide, bdS (by decide), fun d1 H2 g0 g1 s2 hb2 => ⟨_, _, rfl, rfl, ?_⟩⟩
    refine ⟨_, rfl, b, _, _, rfl, hb2, by omega, by decide, bdS (by decide), fun d2 H3 g2 g3 s3 hb3 => ⟨_, _, rfl, rfl, ?_⟩⟩
    refine ⟨_, rfl, _, _, rfl, rfl, ⟨by decide, by decide, by decide⟩, b, _, _, rfl, hb3, by omega, by decide, bdS (by decide), fun d3 H4 g4 g5 s4 hb4 => ?_⟩
    refine ⟨_, _, rfl, rfl, ⟨by decide, by decide, by decide⟩, _, _, rfl, rfl, sz 6, ?_⟩
    intro l nl; generalize he' : upd _ _ _ = H5; obtain ⟨s5, hl⟩ := new_facts nl he'; clear he'
    have hb5 := hb4.same s5
    have e30 : (10 : Int) ^ (30 : Int).toNat = 1000000000000000000000000000000 := by decide
    have hv : ∃ v : Int, atI [V.int (d1 - 6), .int (d2 - 100), .int d3, .int (10 ^ (30 : Int).toNat - 1), .int 0, .int 1] r = some (V.int v) ∧ Bd 100 v := by
      rw [e30] at g5 ⊢
      have hr : r = 0 ∨ r = 1 ∨ r = 2 ∨ r = 3 ∨ r = 4 ∨ r = 5 := by omega
      rcases hr with rfl | rfl | rfl | rfl | rfl | rfl
      · exact ⟨_, rfl, bd_of (by omega)⟩
      · exact ⟨_, rfl, bd_of (by omega)⟩
      · exact ⟨_, rfl, bd_of (by omega)⟩
      · exact ⟨_, rfl, bd_of (by decide)⟩
      · exact ⟨_, rfl, bd_of (by decide)⟩
      · exact ⟨_, rfl, bd_of (by decide)⟩
    obtain ⟨v, ev, bv⟩ := hv
    refine ⟨_, rfl, _, rfl, rd_ixL hl ev ⟨_, rfl, sz 2, ?_⟩⟩
    intro l2 nl2; generalize he' : upd _ _ _ = H6; obtain ⟨s6, hl2⟩ := new_facts nl2 he'; clear he'
    refine ⟨_, rfl, b, _, _, rfl, hb5.same s6, by omega, by decide, bdS (by decide), fun d4 H7 g6 g7 s7 hb7 => ?_⟩
    have nb : l2 ≠ b := fun z => by
      obtain ⟨_, _, _, e, _⟩ := hb5
      rw [← z, nl2] at e; cases e
    have hl7 := s7 _ _ hl2 nb
    have sf : SB b H H7 := ((((s1.trans s2).trans s3).trans s4).trans ((Same.sb s5).trans (Same.sb s6))).trans s7
    have hs : ∃ v : Int, atI [V.int 1, .int (-1)] d4 = some (V.int v) ∧ (v = 1 ∨ v = -1) := by
      have hr : d4 = 0 ∨ d4 = 1 := by omega
      rcases hr with rfl | rfl
      · exact ⟨_, rfl, .inl rfl⟩
      · exact ⟨_, rfl, .inr rfl⟩
    obtain ⟨v2, ev2, hv2⟩ := hs
    refine rd_ixL hl7 ev2 ⟨_, _, rfl, rfl, bv.mulW (n := 1) (by rcases hv2 with rfl | rfl <;> exact bd_of (by decide)) (by decide) (by decide) (by decide), ?_⟩
    refine k _ _ ?_ sf (hb7.mono (by omega))
    rcases hv2 with rfl | rfl
    · rw [Int.mul_one]; exact bv
    · rw [Int.mul_neg, Int.mul_one]; exact bv.neg
theorem ok__law_whole (T : TX K mg) : FnR P w K mg base (L2.CX P w) 2 (ga K "_law_whole") SpWhole := (okd__law_whole T).r (fun _ _ _ _ _ _ us hl => match us, hl with | [_], _ => rfl)
structure SpPair (vs : List V) (H : Hp) (Q : VK) (E : XK) : Prop where
  h : ∃ b n, vs = [.ref b] ∧ Bag H b n ∧ n ≤ 80000 ∧ ∀ t (u d : Int) H', Bd 100 u → Bd 100 d → d ≠ 0 → SB b H H' → Bag H' b (n + 10) → H' t = some (.tup [.int u, .int d]) → Q (.ref t) H'
theorem okd__law_pair (T : TX K mg) : FnD P w K mg base 3 (ga K "_law_pair") ["_law_bag_here"] SpPair d__law_pair.name d__law_pair.qual d__law_pair.params d__law_pair.body d__law_pair.scope := by
  refine fnD_of (T.d 39) sc__law_pair (fun vs H Q E h => ?_) (fun cdv A outer s H vs Q E hr h => ?_)
  · obtain ⟨b, n, rfl, _⟩ := h; rfl
  · obtain ⟨b, n, rfl, hb, hn, k⟩ := h
    refine ⟨_, pss_cons (ps_set (i := 1) sc__law_pair.nd rfl (.inl rfl) (pe_callR (ok__law_whole T) (hr.mono (by decide)) (T.kg 38) (by rfl) (T.g 23) passL (pa_cons (pv 0) pa_nil))) (pss_one (ps_ret (pe_tup (pa_cons (pe_callR (ok__law_whole T) (hr.mono (by decide)) (T.kg 38) (by rfl) (T.g 23) passL (pa_cons (pv 0) pa_nil)) (pa_cons (pe_ifExp (pt_cmpR op_ne (pv 1) pe_int (nomark _)) (pv 1) pe_int) pa_nil))))), ?_⟩
    refine ⟨_, rfl, b, n, rfl, hb, by omega, fun r H1 br s1 hb1 => ?_⟩
    refine ⟨_, rfl, b, _, rfl, hb1, by omega, fun r2 H2 br2 s2 hb2 => ?_⟩
    refine ⟨_, rfl, rfl, _, rfl, ?_⟩
    refine ite2 (fun hc => ?_) (fun hc => ?_)
    · have hr : r ≠ 0 := by intro z; subst z; simp at hc
      refine ⟨_, rfl, sz 2, ?_⟩
      intro l nl; generalize he' : upd _ _ _ = H3; obtain ⟨s3, hl⟩ := new_facts nl he'; clear he'
      exact k l r2 r H3 br2 br hr ((s1.trans s2).trans (Same.sb s3)) ((hb2.same s3).mono (by omega)) hl
    · refine ⟨sz 2, ?_⟩
      intro l nl; generalize he' : upd _ _ _ = H3; obtain ⟨s3, hl⟩ := new_facts nl he'; clear he'
      exact k l r2 7 H3 br2 (bd_of (by decide)) (by decide) ((s1.trans s2).trans (Same.sb s3)) ((hb2.same s3).mono (by omega)) hl
theorem ok__law_pair (T : TX K mg) : FnR P w K mg base (L2.CX P w) 3 (ga K "_law_pair") SpPair := (okd__law_pair T).r (fun _ _ _ _ _ _ us hl => match us, hl with | [_], _ => rfl)
structure SpMade (K : PySem.W.Frag) (vs : List V) (H : Hp) (Q : VK) (E : XK) : Prop where
  h : ∃ b n x p, vs = [.ref b, .ref x] ∧ Bag H b n ∧ n ≤ 90000 ∧ H x = some (tupP p) ∧ Fine p ∧ ∀ v H', SB b H H' → Bag H' b (n + 1) → NumAt (ga K "Ratio") H' v p.1 p.2 → Q v H'
theorem okd__law_made (T : TX K mg) : FnD P w K mg base 5 (ga K "_law_made") ["_law_bag_here", "_law_x"] (SpMade K) d__law_made.name d__law_made.qual d__law_made.params d__law_made.body d__law_made.scope := by
  refine fnD_of (T.d 40) sc__law_made (fun vs H Q E h => ?_) (fun cdv A outer s H vs Q E hr h => ?_)
  · obtain ⟨b, n, x, p, rfl, _⟩ := h; rfl
  · obtain ⟨b, n, x, p, rfl, hb, hn, hx, hp, k⟩ := h
    refine ⟨_, pss_one (ps_ret (pe_ifExp (PW.pt (pw_and (pt_cmpR op_eq (pe_ix ix_seq (pv 1) pe_int (fun _ _ => rfl)) pe_int (nomark _)) (pw_and1 (pt_cmpR op_eq (pe_callR (ok__law_take T) (hr.mono (by decide)) (T.kg 30) (by rfl) (T.g 15) passL (pa_cons (pv 0) (pa_cons pe_int pa_nil))) pe_int (nomark _))))) (pe_ix ix_seq (pv 1) pe_int (fun _ _ => rfl)) (pe_ratio2 T (hr.mono (by decide)) (by rfl) (T.g 34) passL (pa_cons (pe_ix ix_seq (pv 1) pe_int (fun _ _ => rfl)) (pa_cons (pe_ix ix_seq (pv 1) pe_int (fun _ _ => rfl)) pa_nil))))), ?_⟩
    have mk : ∀ H1, SB b H H1 → Bag H1 b (n + 1) → (tCallR (SpMk K []) E0 (tCons (tOp (rIx K) (tVar 1) (tC (.int 0))) (tCons (tOp (rIx K) (tVar 1) (tC (.int 1))) tNil))) [some (.ref b), some (.ref x)] H1 Q := by
      intro H1 s1 hb1
      have hx1 := sb_pair s1 hb hx
      refine ⟨_, rfl, rd_ixT hx1 rfl ⟨_, rfl, rd_ixT hx1 rfl ?_⟩⟩
      refine rd_ratio hp.1.ne (hp.2.2.mono (by decide)) fun c H2 s2 hc => ?_
      rw [nrm_of_low hp.1] at hc
      exact k _ H2 (s1.trans (Same.sb s2)) (hb1.same s2) (.of hc)
    refine ⟨_, rfl, rd_ixT hx rfl ⟨rfl, _, rfl, ?_⟩⟩
    refine ite2 (fun hc => ?_) (fun hc => ?_)
    · refine ⟨_, rfl, b, n, _, rfl, hb, by omega, by decide, bdS (by decide), fun r H1 r0 r1 s1 hb1 => ⟨rfl, _, rfl, ?_⟩⟩
      refine ite2 (fun hd => ?_) (fun hd => ?_)
      · have e1 : p.2 = 1 := by simpa using hc
        refine ⟨_, rfl, rd_ixT (sb_pair s1 hb hx) rfl (k _ H1 s1 hb1 ?_)⟩
        exact .inl ⟨rfl, e1⟩
      · exact mk H1 s1 hb1
    · exact mk H (SB.refl _ _) (hb.mono (by omega))
theorem ok__law_made (T : TX K mg) : FnR P w K mg base (L2.CX P w) 5 (ga K "_law_made") (SpMade K) := (okd__law_made T).r (fun _ _ _ _ _ _ us hl => match us, hl with | [_, _], _ => rfl)
end
end Lw
set_option Elab.async false
set_option linter.all false
set_option maxRecDepth 100000
set_option maxHeartbeats 4000000
/-! Two numbers, in every way. -/
namespace Lw
open PySem PySem.Spec PyProof.Rows L2 He Wl
section
variable {K : PySem.W.Frag} {mg : Str → Option Value}
theorem nf_ok (T : TX K mg) {t : Value} (h : OkT (ga K "Ratio") t) : PySem.W.notFirst K (ga K "Ratio") t = true := by
  rcases h with rfl | ⟨n, hn, rfl⟩
  · unfold PySem.W.notFirst; simp
  · unfold PySem.W.notFirst; rw [((x_r T).kty n hn).2]; simp
/-- a Ratio == any value -/
def rEqR (K : PySem.W.Frag) (neg : Bool) : R2 := fun x y H Q => ∃ a p q, x = .ref a ∧ RatAt (ga K "Ratio") H a p q ∧ ((Odd K H y ∧ Q (.bl neg) H) ∨ ∃ r s, NumAt (ga K "Ratio") H y r s ∧ ∀ H', Same H H' → Q (.bl (Bool.xor neg (decide (p = r ∧ q = s)))) H')
end
section
variable {X : Cx}
theorem op_eqR (T : TX X.K X.mg) (hr : Room 6 X.A) (hx : Passes (L2.CX X.prog X.w) X E0) : OpR X (compareOp .Eq) (rEqR X.K false) := by
  refine OpR.imp (op_eqSl (x_r T).eq.at_ (x_r T).eq.fn (ok_Ratio___eq__ T) hr hx) fun x y H Q h => ?_
  obtain ⟨a, p, q, rfl, ⟨dx, ha⟩, h⟩ := h
  rcases h with ⟨⟨t, h1, h2, h3⟩, k⟩ | ⟨r, s, hn, k⟩
  · exact ⟨a, dx, _, t, rfl, ha, h1, nf_ok T h2, a, y, p, q, rfl, ⟨dx, ha⟩, .inl ⟨t, h1, h2, h3, k⟩⟩
  · obtain ⟨t, h1, h2, h3⟩ := numT_of (R := 0) hn
    exact ⟨a, dx, _, t, rfl, ha, h1, nf_ok T h2, a, y, p, q, rfl, ⟨dx, ha⟩, .inr ⟨r, s, hn, fun H' s' => by have z := k H' s'; rw [Bool.false_xor] at z; exact z⟩⟩
theorem op_neR (T : TX X.K X.mg) (hr : Room (6 + 1) X.A) (hx : Passes (L2.CX X.prog X.w) X E0) : OpR X (compareOp .NotEq) (rEqR X.K true) := by
  refine OpR.imp (op_neSl (x_r T).ne (x_r T).isi.cm (x_r T).eq.at_ (x_r T).eq.fn (ok_Ratio___eq__ T) hr hx) fun x y H Q h => ?_
  obtain ⟨a, p, q, rfl, ⟨dx, ha⟩, h⟩ := h
  rcases h with ⟨⟨t, h1, h2, h3⟩, k⟩ | ⟨r, s, hn, k⟩
  · exact ⟨a, dx, _, t, rfl, ha, h1, nf_ok T h2, a, y, p, q, rfl, ⟨dx, ha⟩, .inl ⟨t, h1, h2, h3, false, rfl, k⟩⟩
  · obtain ⟨t, h1, h2, h3⟩ := numT_of (R := 0) hn
    exact ⟨a, dx, _, t, rfl, ha, h1, nf_ok T h2, a, y, p, q, rfl, ⟨dx, ha⟩, .inr ⟨r, s, hn, fun H' s' => ⟨_, rfl, by have z := k H' s'; rw [Bool.true_xor] at z; exact z⟩⟩⟩
end
section
variable {K : PySem.W.Frag} {H : Hp} {Q : VK} {E : XK} {a t1 t2 : Addr} {v : V} {p q : Pr}
theorem rd_bin {f : Int → Int → Int → Int → Int × Int} (ha : RatAt (ga K "Ratio") H a p.1 p.2) (hv : NumAt (ga K "Ratio") H v q.1 q.2) (fp : Fine p) (fq : Fine q)
    (k : ∀ c H', Same H H' → RatAt (ga K "Ratio") H' c (nrm (f p.1 p.2 q.1 q.2).1 (f p.1 p.2 q.1 q.2).2).1 (nrm (f p.1 p.2 q.1 q.2).1 (f p.1 p.2 q.1 q.2).2).2 → Q (.ref c) H') : rBinSl (ga K "Ratio") (spBin K f) E (.ref a) v H Q := by
  obtain ⟨dx, ha⟩ := ha
  exact ⟨a, dx, _, rfl, ha, hv.like, a, v, _, _, _, _, rfl, ⟨dx, ha⟩, hv, fp.2.1.mono (by decide), fp.2.2.mono (by decide), fq.2.1.mono (by decide), fq.2.2.mono (by decide), fp.1.ne, fq.1.ne, k⟩
theorem rd_neP (h1 : H t1 = some (tupP p)) (h2 : H t2 = some (tupP p)) (k : Q (.bl false) H) : rNeD K (.ref t1) (.ref t2) H Q := by
  refine ⟨.tuple [.int p.1, .int p.2], .tuple [.int p.1, .int p.2], .tup (SqT.of h1) (.cons (.int _) (.cons (.int _) .nil)), .tup (SqT.of h2) (.cons (.int _) (.cons (.int _) .nil)), rfl, rfl, ?_⟩
  rw [eqv_pair]; simpa using k
theorem rd_eqP (h1 : H t1 = some (tupP p)) (h2 : H t2 = some (tupP p)) (k : Q (.bl true) H) : rEqD K (.ref t1) (.ref t2) H Q := by
  refine ⟨.tuple [.int p.1, .int p.2], .tuple [.int p.1, .int p.2], .tup (SqT.of h1) (.cons (.int _) (.cons (.int _) .nil)), .tup (SqT.of h2) (.cons (.int _) (.cons (.int _) .nil)), rfl, rfl, ?_⟩
  rw [eqv_pair]; simpa using k
theorem rd_eqD2 (h1 : H t1 = some (tupP p)) (h2 : H t2 = some (tupP q)) (k : Q (.bl (decide (p.1 = q.1 ∧ p.2 = q.2))) H) : rEqD K (.ref t1) (.ref t2) H Q := by
  refine ⟨.tuple [.int p.1, .int p.2], .tuple [.int q.1, .int q.2], .tup (SqT.of h1) (.cons (.int _) (.cons (.int _) .nil)), .tup (SqT.of h2) (.cons (.int _) (.cons (.int _) .nil)), rfl, rfl, ?_⟩
  rw [eqv_pair]; exact k
theorem rd_neD2 (h1 : H t1 = some (tupP p)) (h2 : H t2 = some (tupP q)) (k : Q (.bl (!decide (p.1 = q.1 ∧ p.2 = q.2))) H) : rNeD K (.ref t1) (.ref t2) H Q := by
  refine ⟨.tuple [.int p.1, .int p.2], .tuple [.int q.1, .int q.2], .tup (SqT.of h1) (.cons (.int _) (.cons (.int _) .nil)), .tup (SqT.of h2) (.cons (.int _) (.cons (.int _) .nil)), rfl, rfl, ?_⟩
  rw [eqv_pair]; exact k
end
theorem okp01 : Okp (0, 1) := ⟨by decide, Bd.mono (m := 10) (bd_of (by decide)) (by decide), Bd.mono (m := 10) (bd_of (by decide)) (by decide)⟩
theorem ord_ty {K : PySem.W.Frag} {H : Hp} {v : V} {n : String} (hn : n ∈ ordT) (h1 : n ≠ "int") (h : TyX K H v (.type n)) : Odd K H v :=
  ⟨.type n, .inl h, .inr ⟨n, hn, rfl⟩, by unfold numT; simp [h1]⟩
theorem subF_neg {p : Pr} (h : Low p.1 p.2) : subF (0, 1) p = nrm (-p.1) p.2 := by
  unfold subF
  simp
section
variable {P : Program} {w : World} {K : PySem.W.Frag} {mg : Str → Option Value} {base : Heap}
structure SpTwo (vs : List V) (H : Hp) (Q : VK) (E : XK) : Prop where
  h : ∃ b n x y p q, vs = [.ref b, .ref x, .ref y] ∧ Bag H b n ∧ n ≤ 80000 ∧ H x = some (tupP p) ∧ H y = some (tupP q) ∧ Fine p ∧ Fine q ∧ ∀ H', SB b H H' → Bag H' b (n + 2) → Q (.bl true) H'
theorem okd__law_two_right (T : TX K mg) : FnD P w K mg base 9 (ga K "_law_two_right") ["_law_bag_here", "_law_x", "_law_y"] SpTwo d__law_two_right.name d__law_two_right.qual d__law_two_right.params d__law_two_right.body d__law_two_right.scope := by
  refine fnD_of (T.d 41) sc__law_two_right (fun vs H Q E h => ?_) (fun cdv A outer s H vs Q E hr h => ?_)
  · obtain ⟨b, n, x, y, p, q, rfl, _⟩ := h; rfl
  · obtain ⟨b, n, x, y, p, q, rfl, hb, hn, hx, hy, fp, fq, k⟩ := h
    refine ⟨_, pss_cons (ps_par (by rfl) sc__law_two_right.nd (i := 3) (j := 4) rfl rfl (by decide) rfl rfl (pa_cons (pe_ratio2 T (hr.mono (by decide)) (by rfl) (T.g 34) passL (pa_cons (pe_ix ix_seq (pv 1) pe_int (fun _ _ => rfl)) (pa_cons (pe_ix ix_seq (pv 1) pe_int (fun _ _ => rfl)) pa_nil))) (pa_cons (pe_callR (ok__law_made T) (hr.mono (by decide)) (T.kg 40) (by rfl) (T.g 25) passL (pa_cons (pv 0) (pa_cons (pv 2) pa_nil))) pa_nil)) (by rfl)) (pss_cons (ps_if (PW.pt (pw_or (pt_cmpR (op_neD hr.units) (pe_callR (ok__law_told T) (hr.mono (by decide)) (T.kg 37) (by rfl) (T.g 22) passL (pa_cons (pe_op (op_binSl (nm := "add") rfl (x_r T).add (ok_Ratio___add__ T) (hr.mono (by decide)) passL) (pv 3) (pv 4)) pa_nil)) (pe_callR (ok__law_plus T) (hr.mono (by decide)) (T.kg 32) (by rfl) (T.g 17) passL (pa_cons (pv 1) (pa_cons (pv 2) pa_nil))) (nomark _)) (pw_or1 (pt_cmpR (op_neD hr.units) (pe_callR (ok__law_told T) (hr.mono (by decide)) (T.kg 37) (by rfl) (T.g 22) passL (pa_cons (pe_op (op_binSl (nm := "sub") rfl (x_r T).sub (ok_Ratio___sub__ T) (hr.mono (by decide)) passL) (pv 3) (pv 4)) pa_nil)) (pe_callR (ok__law_minus T) (hr.mono (by decide)) (T.kg 33) (by rfl) (T.g 18) passL (pa_cons (pv 1) (pa_cons (pv 2) pa_nil))) (nomark _))))) (pss_one (ps_ret pe_bl)) (pss_nil)) (pss_cons (ps_if (PW.pt (pw_or (pt_cmpR (op_neD hr.units) (pe_callR (ok__law_told T) (hr.mono (by decide)) (T.kg 37) (by rfl) (T.g 22) passL (pa_cons (pe_op (op_binSl (nm := "mul") rfl (x_r T).mul (ok_Ratio___mul__ T) (hr.mono (by decide)) passL) (pv 3) (pv 4)) pa_nil)) (pe_callR (ok__law_times T) (hr.mono (by decide)) (T.kg 34) (by rfl) (T.g 19) passL (pa_cons (pv 1) (pa_cons (pv 2) pa_nil))) (nomark _)) (pw_or1 (pt_cmpR (op_neD hr.units) (pe_callR (ok__law_told T) (hr.mono (by decide)) (T.kg 37) (by rfl) (T.g 22) passL (pa_cons (pe_un (un_negSl (x_r T).neg.at_ (x_r T).neg.fn (ok_Ratio___neg__ T) (hr.mono (by decide)) passL) (pv 3)) pa_nil)) (pe_callR (ok__law_minus T) (hr.mono (by decide)) (T.kg 33) (by rfl) (T.g 18) passL (pa_cons (pe_tup (pa_cons pe_int (pa_cons pe_int pa_nil))) (pa_cons (pv 1) pa_nil))) (nomark _))))) (pss_one (ps_ret pe_bl)) (pss_nil)) (pss_cons (ps_if (PW.pt (pw_or (pt_cmpR op_ne (pe_callB call_reprB (by rfl) (T.f 48) (by decide +kernel) (pa_cons (SlX.pe_methSl (pv 3) (x_r T).cl (x_r T).below (ok_Ratio_below T) (hr.mono (by decide)) passL (pa_cons (pv 4) pa_nil)) pa_nil)) (pe_callB call_reprB (by rfl) (T.f 48) (by decide +kernel) (pa_cons (pe_callR (ok__law_less T) (hr.mono (by decide)) (T.kg 36) (by rfl) (T.g 21) passL (pa_cons (pv 1) (pa_cons (pv 2) pa_nil))) pa_nil)) (nomark _)) (pw_or (pt_cmpR op_ne (pe_cmpR (op_eqR T (hr.mono (by decide)) passL) (pv 3) (pv 4) (nomark _)) (pe_cmpR (op_eqD hr.units) (pv 1) (pv 2) (nomark _)) (nomark _)) (pw_or1 (pt_cmpR op_ne (pe_cmpR (op_neR T (hr.mono (by decide)) passL) (pv 3) (pv 4) (nomark _)) (pe_cmpR (op_neD hr.units) (pv 1) (pv 2) (nomark _)) (nomark _)))))) (pss_one (ps_ret pe_bl)) (pss_nil)) (pss_cons (ps_set (i := 5) sc__law_two_right.nd rfl (.inl rfl) (pe_ix ix_seq (pe_lst (pa_cons pe_bl (pa_cons pe_bl (pa_cons pe_non (pa_cons (pe_callTy call_str_int (by rfl) (T.f 49) (by decide +kernel) (pa_cons (pe_ix ix_seq (pv 1) pe_int (fun _ _ => rfl)) pa_nil)) (pa_cons (pe_lst (pa_cons (pv 3) pa_nil)) (pa_cons (pe_tup (pa_cons (pv 3) pa_nil)) pa_nil))))))) (pe_callR (ok__law_take T) (hr.mono (by decide)) (T.kg 30) (by rfl) (T.g 15) passL (pa_cons (pv 0) (pa_cons pe_int pa_nil))) (fun _ _ => rfl))) (pss_cons (ps_if (PW.pt (pw_or (pt_cmpR op_ne (pe_cmpR (op_eqR T (hr.mono (by decide)) passL) (pv 3) (pe_ix ix_seq (pv 1) pe_int (fun _ _ => rfl)) (nomark _)) (pe_cmpR op_eq (pe_ix ix_seq (pv 1) pe_int (fun _ _ => rfl)) pe_int (nomark _)) (nomark _)) (pw_or (pt_cmpR (op_eqR T (hr.mono (by decide)) passL) (pv 3) (pv 5) (nomark _)) (pw_or (pt_not (pt_cmpR (op_neR T (hr.mono (by decide)) passL) (pv 3) (pv 5) (nomark _))) (pw_or1 (pt_cmpR (op_eqR T (hr.mono (by decide)) passL) (pe_ratio1 T (hr.mono (by decide)) (by rfl) (T.g 34) passL (pa_cons (pe_callTy call_int1 (by rfl) (T.f 40) (by decide +kernel) (pa_cons (pe_cmpR op_isT (pv 5) pe_bl (nomark _)) pa_nil)) pa_nil)) (pv 5) (nomark _))))))) (pss_one (ps_ret pe_bl)) (pss_nil)) (pss_cons (ps_if (pt_cmpR op_ne (pe_ix ix_seq (pv 2) pe_int (fun _ _ => rfl)) pe_int (nomark _)) (pss_one (ps_ret (pe_cmpR (op_eqD hr.units) (pe_callR (ok__law_told T) (hr.mono (by decide)) (T.kg 37) (by rfl) (T.g 22) passL (pa_cons (SlX.pe_methSl (pv 3) (x_r T).cl (x_r T).over (ok_Ratio_over T) (hr.mono (by decide)) passL (pa_cons (pv 4) pa_nil)) pa_nil)) (pe_callR (ok__law_over T) (hr.mono (by decide)) (T.kg 35) (by rfl) (T.g 20) passL (pa_cons (pv 1) (pa_cons (pv 2) pa_nil))) (nomark _)))) (pss_nil)) (pss_cons (ps_try_only rfl rfl ⟨by rfl, by decide, .inl (T.g 33)⟩ takes0 (fun W pn xe tk po => pss_one (ps_expr (SlX.pe_methSl (E := fun cls d H => ∀ σ, W cls d σ H) (pv 3) (x_r T).cl (x_r T).over (ok_Ratio_over T) (hr.mono (by decide)) (passes_call tk (fun _ _ σ _ h => h σ)) (pa_cons (pv 4) pa_nil)))) (fun a oe cls d pn _ _ => pss_one (ps_ret pe_bl))) (pss_one (ps_ret pe_bl))))))))), ?_⟩
    -- one, other
    refine ⟨_, rfl, rd_ixT hx rfl ⟨_, rfl, rd_ixT hx rfl ?_⟩⟩
    refine rd_ratio fp.1.ne (fp.2.2.mono (by decide)) fun a H1 s1 ha1 => ?_
    rw [nrm_of_low fp.1] at ha1
    refine ⟨_, rfl, _, rfl, b, n, y, q, rfl, hb.same s1, by omega, s1 _ _ hy, fq, fun v H2 s2 hb2 hv2 => ?_⟩
    have ha2 := sb_rat s2 (hb.same s1) ha1
    have hx2 := sb_pair s2 (hb.same s1) (s1 _ _ hx)
    have hy2 := sb_pair s2 (hb.same s1) (s1 _ _ hy)
    have sb2 : SB b H H2 := (Same.sb s1).trans s2
    clear s1 s2 ha1
    refine ⟨_, _, rfl, ?_⟩
    -- the sum
    refine ⟨_, rfl, _, rfl, rd_bin ha2 hv2 fp fq fun c H3 s3 hc => ?_⟩
    refine rd_told hc fun t H4 s4 ht => ?_
    have S4 := s3.trans s4
    refine ⟨_, rfl, _, rfl, rd_pl (S4 _ _ hx2) (S4 _ _ hy2) fp.ok fq.ok trivial fun t2 H5 s5 ht2 => ?_⟩
    have S5 := S4.trans s5
    refine rd_neP (s5 _ _ ht) ht2 ⟨_, rfl, ?_⟩
    have ha5 := ha2.same S5
    have hv5 := hv2.same S5
    have hx5 := S5 _ _ hx2
    have hy5 := S5 _ _ hy2
    have hb5 := hb2.same S5
    have sb5 : SB b H H5 := sb2.trans (Same.sb S5)
    clear sb2 hb2 ha2 hv2 hx2 hy2 S5 S4 s3 s4 s5 ht ht2 hc
    -- the difference
    refine ⟨_, rfl, _, rfl, rd_bin ha5 hv5 fp fq fun c H3 s3 hc => ?_⟩
    refine rd_told hc fun t H4 s4 ht => ?_
    have S4 := s3.trans s4
    refine ⟨_, rfl, _, rfl, rd_pl (S4 _ _ hx5) (S4 _ _ hy5) fp.ok fq.ok trivial fun t2 H6 s5 ht2 => ?_⟩
    have S5 := S4.trans s5
    refine rd_neP (s5 _ _ ht) ht2 ⟨_, rfl, ?_⟩
    have ha6 := ha5.same S5
    have hv6 := hv5.same S5
    have hx6 := S5 _ _ hx5
    have hy6 := S5 _ _ hy5
    have hb6 := hb5.same S5
    have sb6 : SB b H H6 := sb5.trans (Same.sb S5)
    clear sb5 hb5 ha5 hv5 hx5 hy5 S5 S4 s3 s4 s5 ht ht2 hc
    -- the product
    refine ⟨_, rfl, _, rfl, rd_bin ha6 hv6 fp fq fun c H3 s3 hc => ?_⟩
    refine rd_told hc fun t H4 s4 ht => ?_
    have S4 := s3.trans s4
    refine ⟨_, rfl, _, rfl, rd_pl (S4 _ _ hx6) (S4 _ _ hy6) fp.ok fq.ok trivial fun t2 H7 s5 ht2 => ?_⟩
    have S5 := S4.trans s5
    refine rd_neP (s5 _ _ ht) ht2 ⟨_, rfl, ?_⟩
    have ha7 := ha6.same S5
    have hv7 := hv6.same S5
    have hx7 := S5 _ _ hx6
    have hy7 := S5 _ _ hy6
    have hb7 := hb6.same S5
    have sb7 : SB b H H7 := sb6.trans (Same.sb S5)
    clear sb6 hb6 ha6 hv6 hx6 hy6 S5 S4 s3 s4 s5 ht ht2 hc
    -- the negative
    obtain ⟨da, hda⟩ := id ha7
    refine ⟨_, rfl, a, da, _, rfl, hda, a, _, _, rfl, ha7, fp.2.2.mono (by decide), fp.1.ne, fun c H3 s3 hc => ?_⟩
    refine rd_told hc fun t H4 s4 ht => ?_
    have S4 := s3.trans s4
    refine ⟨sz 2, ?_⟩
    intro z nz; generalize he' : upd _ _ _ = H5; obtain ⟨s5, hz⟩ := new_facts nz he'; clear he'
    refine ⟨_, rfl, rd_pl (p := (0, 1)) hz ((S4.trans s5) _ _ hx7) okp01 fp.ok trivial fun t2 H8 s6 ht2 => ?_⟩
    rw [subF_neg fp.1] at ht2
    have S8 := (S4.trans s5).trans s6
    refine rd_neP ((s5.trans s6) _ _ ht) ht2 ⟨_, rfl, ?_⟩
    have ha8 := ha7.same S8
    have hv8 := hv7.same S8
    have hx8 := S8 _ _ hx7
    have hy8 := S8 _ _ hy7
    have hb8 := hb7.same S8
    have sb8 : SB b H H8 := sb7.trans (Same.sb S8)
    clear sb7 hb7 ha7 hv7 hx7 hy7 S8 S4 s3 s4 s5 s6 ht ht2 hc hz hda
    -- below
    obtain ⟨da, hda⟩ := id ha8
    refine ⟨_, rfl, a, da, _, rfl, hda, _, rfl, a, v, _, _, _, _, rfl, ha8, hv8, fp.2.1.mono (by decide), fp.2.2.mono (by decide), fq.2.1.mono (by decide), fq.2.2.mono (by decide), fun H9 s9 => ?_⟩
    refine ⟨_, rfl, _, rfl, _, rfl, x, y, p, q, rfl, s9 _ _ hx8, s9 _ _ hy8, fp.ok, fq.ok, _, rfl, rd_neS rfl rfl ⟨_, rfl, ?_⟩⟩
    have ha9 := ha8.same s9
    have hv9 := hv8.same s9
    have hx9 := s9 _ _ hx8
    have hy9 := s9 _ _ hy8
    have hb9 := hb8.same s9
    have sb9 : SB b H H9 := sb8.trans (Same.sb s9)
    clear sb8 hb8 ha8 hv8 hx8 hy8 s9 hda
    -- equal
    refine ⟨_, rfl, _, rfl, a, _, _, rfl, ha9, .inr ⟨_, _, hv9, fun H10 s10 => ?_⟩⟩
    refine ⟨_, rfl, _, rfl, rd_eqD2 (s10 _ _ hx9) (s10 _ _ hy9) (rd_neS (by rw [Bool.false_xor]) rfl ⟨_, rfl, ?_⟩)⟩
    refine ⟨_, rfl, _, rfl, a, _, _, rfl, ha9.same s10, .inr ⟨_, _, hv9.same s10, fun H11 s11 => ?_⟩⟩
    have S11 := s10.trans s11
    refine ⟨_, rfl, _, rfl, rd_neD2 (S11 _ _ hx9) (S11 _ _ hy9) (rd_neS (by rw [Bool.true_xor]) rfl ⟨_, rfl, ?_⟩)⟩
    have ha := ha9.same S11
    have hv := hv9.same S11
    have hx' := S11 _ _ hx9
    have hy' := S11 _ _ hy9
    have hb' := hb9.same S11
    have sb' : SB b H H11 := sb9.trans (Same.sb S11)
    clear sb9 hb9 ha9 hv9 hx9 hy9 S11 s10 s11
    -- something odd
    have hl0 : p.1.natAbs.log2 < 1920 := Nat.lt_of_lt_of_le (PySem.Flt.log2_lt_of (by decide) fp.2.1) (by decide)
    refine ⟨_, rfl, rd_ixT hx' rfl ⟨_, rfl, hl0, _, rfl, sz 1, ?_⟩⟩
    intro l1 nl1; generalize he' : upd _ _ _ = G1; obtain ⟨g1, hl1⟩ := new_facts nl1 he'; clear he'
    refine ⟨_, rfl, sz 1, ?_⟩
    intro l2 nl2; generalize he' : upd _ _ _ = G2; obtain ⟨g2, hl2⟩ := new_facts nl2 he'; clear he'
    refine ⟨sz 6, ?_⟩
    intro l3 nl3; generalize he' : upd _ _ _ = G3; obtain ⟨g3, hl3⟩ := new_facts nl3 he'; clear he'
    have S3 := (g1.trans g2).trans g3
    have hbG := hb'.same S3
    have nb : ∀ l, H11 l = none → l ≠ b := fun l nl z => by
      obtain ⟨_, _, _, e, _⟩ := hb'
      rw [z, e] at nl; cases nl
    have n1 := nb l1 nl1
    have n3 : l3 ≠ b := fun z => by
      obtain ⟨_, _, _, e, _⟩ := hb'.same (g1.trans g2)
      rw [z, e] at nl3; cases nl3
    refine ⟨_, rfl, b, _, _, rfl, hbG, by omega, by decide, bdS (by decide), fun r G4 r0 r1 s4 hb4 => ?_⟩
    have hl1' := s4 _ _ ((g2.trans g3) _ _ hl1) n1
    have hl2' := sb_keep s4 hbG (g3 _ _ hl2) (fun l z => nomatch z)
    have hl3' := s4 _ _ hl3 n3
    have ha4 := sb_rat s4 hbG (ha.same S3)
    have hv4 := sb_num s4 hbG (hv.same S3)
    have hx4 := sb_pair s4 hbG (S3 _ _ hx')
    have hy4 := sb_pair s4 hbG (S3 _ _ hy')
    have sb4 : SB b H G4 := (sb'.trans (Same.sb S3)).trans s4
    have hodd : ∃ o, atI [V.bl true, .bl false, .non, .str (toString p.1), .ref l1, .ref l2] r = some o ∧ Odd K G4 o := by
      have hr : r = 0 ∨ r = 1 ∨ r = 2 ∨ r = 3 ∨ r = 4 ∨ r = 5 := by omega
      rcases hr with rfl | rfl | rfl | rfl | rfl | rfl
      · exact ⟨_, rfl, ord_ty (n := "bool") (by decide) (by decide) (.base (.bl true))⟩
      · exact ⟨_, rfl, ord_ty (n := "bool") (by decide) (by decide) (.base (.bl false))⟩
      · exact ⟨_, rfl, ord_ty (n := "NoneType") (by decide) (by decide) (.base .non)⟩
      · exact ⟨_, rfl, ord_ty (n := "str") (by decide) (by decide) (.base (.str _))⟩
      · exact ⟨_, rfl, ord_ty (n := "list") (by decide) (by decide) (.base (.lst hl1'))⟩
      · exact ⟨_, rfl, ord_ty (n := "tuple") (by decide) (by decide) (.base (.tup hl2'))⟩
    obtain ⟨o, eo, ho⟩ := hodd
    refine rd_ixL hl3' eo ?_
    clear hl1' hl2' hl3' s4 hbG S3 g1 g2 g3 hl1 hl2 hl3 ha hv hx' hy' hb' sb' nb n1 n3
    -- (one == x[0]) != (x[1] == 1)
    refine ⟨_, rfl, _, rfl, rd_ixT hx4 rfl ⟨a, _, _, rfl, ha4, .inr ⟨_, _, .int p.1, fun G5 s5 => ?_⟩⟩⟩
    have hx5 := s5 _ _ hx4
    refine ⟨_, rfl, rd_ixT hx5 rfl ⟨rfl, rd_neS (by rw [Bool.false_xor]; congr 1; simp) rfl ⟨_, rfl, ?_⟩⟩⟩
    have ha5 := ha4.same s5
    have hv5 := hv4.same s5
    have hy5 := s5 _ _ hy4
    have ho5 := ho.same s5
    have hb5 := hb4.same s5
    have sb5 : SB b H G5 := sb4.trans (Same.sb s5)
    clear ha4 hv4 hx4 hy4 ho hb4 sb4 s5
    refine ⟨_, rfl, _, rfl, a, _, _, rfl, ha5, .inl ⟨ho5, _, rfl, ?_⟩⟩
    refine ⟨_, rfl, _, rfl, a, _, _, rfl, ha5, .inl ⟨ho5, _, rfl, ?_⟩⟩
    refine ⟨_, rfl, rfl, .inr ⟨_, rfl, ?_⟩⟩
    refine rd_ratio1 fun c G6 s6 hc => ?_
    refine ⟨_, rfl, c, _, _, rfl, hc, .inl ⟨ho5.same s6, _, rfl, ?_⟩⟩
    have ha6 := ha5.same s6
    have hv6 := hv5.same s6
    have hx6 := s6 _ _ hx5
    have hy6 := s6 _ _ hy5
    have hb6 := hb5.same s6
    have sb6 : SB b H G6 := sb5.trans (Same.sb s6)
    obtain ⟨da, hda⟩ := id ha6
    refine ⟨_, rfl, rd_ixT hy6 rfl ⟨rfl, _, rfl, ?_⟩⟩
    refine ite2 (fun hc => ?_) (fun hc => ?_)
    · have hq0 : q.1 ≠ 0 := by intro z; rw [z] at hc; simp at hc
      refine ⟨_, rfl, a, da, _, rfl, hda, _, rfl, a, v, _, _, _, _, rfl, ha6, hv6, fp.2.1.mono (by decide), fp.2.2.mono (by decide), fq.2.1.mono (by decide), fq.2.2.mono (by decide), fp.1.ne, fq.1.ne, fun z => absurd z hq0, fun _ c H3 s3 hc => ?_⟩
      refine rd_told hc fun t H4 s4 ht => ?_
      have S4 := s3.trans s4
      refine ⟨_, rfl, _, rfl, rd_pl (S4 _ _ hx6) (S4 _ _ hy6) fp.ok fq.ok hq0 fun t2 H5 s5 ht2 => ?_⟩
      have S5 := S4.trans s5
      exact rd_eqP (s5 _ _ ht) ht2 (k _ (sb6.trans (Same.sb S5)) ((hb6.same S5).mono (by omega)))
    · have hq0 : q.1 = 0 := by
        by_cases z : q.1 = 0
        · exact z
        · exact absurd (by simp [z]) hc
      refine ⟨_, rfl, a, da, _, rfl, hda, _, rfl, a, v, _, _, _, _, rfl, ha6, hv6, fp.2.1.mono (by decide), fp.2.2.mono (by decide), fq.2.1.mono (by decide), fq.2.2.mono (by decide), fp.1.ne, fq.1.ne, fun _ H3 s3 σ => ?_, fun z => absurd hq0 z⟩
      refine ⟨true, x_zm T, fun _ a' _ => ?_, fun z => nomatch z⟩
      exact k _ (sb6.trans (Same.sb s3)) ((hb6.same s3).mono (by omega))
theorem ok__law_two_right (T : TX K mg) : FnR P w K mg base (L2.CX P w) 9 (ga K "_law_two_right") SpTwo := (okd__law_two_right T).r (fun _ _ _ _ _ _ us hl => match us, hl with | [_, _, _], _ => rfl)
end
end Lw
set_option Elab.async false
set_option linter.all false
set_option maxRecDepth 100000
set_option maxHeartbeats 4000000
/-! Kinds, lists. -/
namespace Lw
open PySem PySem.Spec PyProof.Rows L2 He Wl
section
variable {P : Program} {w : World} {K : PySem.W.Frag} {mg : Str → Option Value} {base : Heap}
structure SpKinds (vs : List V) (H : Hp) (Q : VK) (E : XK) : Prop where
  h : ∃ b n x p, vs = [.ref b, .ref x] ∧ Bag H b n ∧ n ≤ 80000 ∧ H x = some (tupP p) ∧ Fine p ∧ ∀ H', SB b H H' → Bag H' b (n + 2) → Q (.bl true) H'
theorem okd__law_kinds_right (T : TX K mg) : FnD P w K mg base 9 (ga K "_law_kinds_right") ["_law_bag_here", "_law_x"] SpKinds d__law_kinds_right.name d__law_kinds_right.qual d__law_kinds_right.params d__law_kinds_right.body d__law_kinds_right.scope := by
  refine fnD_of (T.d 42) sc__law_kinds_right (fun vs H Q E h => ?_) (fun cdv A outer s H vs Q E hr h => ?_)
  · obtain ⟨b, n, x, p, rfl, _⟩ := h; rfl
  · obtain ⟨b, n, x, p, rfl, hb, hn, hx, fp, k⟩ := h
    refine ⟨_, pss_cons (ps_set (i := 2) sc__law_kinds_right.nd rfl (.inl rfl) (pe_callR (ok__law_made T) (hr.mono (by decide)) (T.kg 40) (by rfl) (T.g 25) passL (pa_cons (pv 0) (pa_cons (pv 1) pa_nil)))) (pss_cons (ps_if (PW.pt (pw_or (pt_cmpR op_notBl (pe_callR (ok_is_number T) (hr.mono (by decide)) (T.kg 20) (by rfl) (T.g 5) passL (pa_cons (pv 2) pa_nil)) pe_bl (nomark _)) (pw_or1 (pt_cmpR op_ne (pe_callB call_reprB (by rfl) (T.f 48) (by decide +kernel) (pa_cons (pe_callR (ok_is_amount T) (hr.mono (by decide)) (T.kg 21) (by rfl) (T.g 6) passL (pa_cons (pv 2) pa_nil)) pa_nil)) (pe_callB call_reprB (by rfl) (T.f 48) (by decide +kernel) (pa_cons (pe_cmpR op_ge (pe_ix ix_seq (pv 1) pe_int (fun _ _ => rfl)) pe_int (nomark _)) pa_nil)) (nomark _))))) (pss_one (ps_ret pe_bl)) (pss_nil)) (pss_cons (ps_if (PW.pt (pw_or (pt_cmpR op_ne (pe_callB call_reprB (by rfl) (T.f 48) (by decide +kernel) (pa_cons (pe_callR (ok_is_share T) (hr.mono (by decide)) (T.kg 22) (by rfl) (T.g 7) passL (pa_cons (pv 2) pa_nil)) pa_nil)) (pe_callB call_reprB (by rfl) (T.f 48) (by decide +kernel) (pa_cons (pe_chainS op_le op_le pe_int (pe_ix ix_seq (pv 1) pe_int (fun _ _ => rfl)) (pe_ix ix_seq (pv 1) pe_int (fun _ _ => rfl))) pa_nil)) (nomark _)) (pw_or1 (pt_cmpR (op_neD hr.units) (pe_callR (ok__law_told T) (hr.mono (by decide)) (T.kg 37) (by rfl) (T.g 22) passL (pa_cons (pe_callR (ok_as_ratio T) (hr.mono (by decide)) (T.kg 23) (by rfl) (T.g 8) passL (pa_cons (pv 2) pa_nil)) pa_nil)) (pv 1) (nomark _))))) (pss_one (ps_ret pe_bl)) (pss_nil)) (pss_cons (ps_set (i := 3) sc__law_kinds_right.nd rfl (.inl rfl) (pe_ix ix_seq (pe_lst (pa_cons pe_non (pa_cons pe_bl (pa_cons pe_bl (pa_cons pe_str (pa_cons (pe_lst (pa_cons (pv 2) pa_nil)) (pa_cons (pe_tup (pa_cons (pv 2) pa_nil)) (pa_cons pe_dnewK (pa_cons pe_str (pa_cons (pe_disp (pps_cons pe_str (pv 2) pps_nil) (by rfl) (by rfl) (fun z => by cases z) (by decide)) pa_nil)))))))))) (pe_callR (ok__law_take T) (hr.mono (by decide)) (T.kg 30) (by rfl) (T.g 15) passL (pa_cons (pv 0) (pa_cons pe_int pa_nil))) (fun _ _ => rfl))) (pss_one (ps_ret (pe_cmpR (op_eqD hr.units) (pe_lst (pa_cons (pe_callR (ok_is_number T) (hr.mono (by decide)) (T.kg 20) (by rfl) (T.g 5) passL (pa_cons (pv 3) pa_nil)) (pa_cons (pe_callR (ok_is_amount T) (hr.mono (by decide)) (T.kg 21) (by rfl) (T.g 6) passL (pa_cons (pv 3) pa_nil)) (pa_cons (pe_callR (ok_is_share T) (hr.mono (by decide)) (T.kg 22) (by rfl) (T.g 7) passL (pa_cons (pv 3) pa_nil)) pa_nil)))) (pe_lst (pa_cons pe_bl (pa_cons pe_bl (pa_cons pe_bl pa_nil)))) (nomark _))))))), ?_⟩
    refine ⟨_, rfl, _, rfl, b, n, x, p, rfl, hb, by omega, hx, fp, fun v H1 s1 hb1 hv1 => ?_⟩
    have hx1 := sb_pair s1 hb hx
    obtain ⟨t, ht, hot, hnt⟩ := numT_of (R := 0) hv1
    refine ⟨_, rfl, v, t, _, rfl, ht, hot, hnt, _, _, rfl, rfl, _, rfl, ?_⟩
    refine ⟨_, rfl, v, rfl, .inr ⟨_, _, hv1, fun H2 s2 => ⟨_, rfl, ?_⟩⟩⟩
    have hx2 := s2 _ _ hx1
    refine ⟨_, rfl, rd_ixT hx2 rfl ⟨_, _, rfl, rfl, _, rfl, rd_neS rfl rfl ⟨_, rfl, ?_⟩⟩⟩
    refine ⟨_, rfl, v, rfl, .inr ⟨_, _, hv1.same s2, fun H3 s3 => ⟨_, rfl, ?_⟩⟩⟩
    have S3 := s2.trans s3
    have hx3 := S3 _ _ hx1
    refine ⟨_, rfl, rd_ixT hx3 rfl (rd_chn p.2 (decide (0 ≤ p.1)) (decide (p.1 ≤ p.2)) rfl rfl (fun Q' z => ⟨_, rfl, rd_ixT hx3 rfl z⟩) ?_)⟩
    refine ⟨_, rfl, rd_neS ?_ rfl ⟨_, rfl, ?_⟩⟩
    · congr 2
      simp [fSh]
    refine ⟨_, rfl, v, rfl, .inr ⟨_, _, hv1.same S3, fp.1.ne, fp.2.2.mono (by decide), fun c H4 s4 hc => ?_⟩⟩
    rw [nrm_of_low fp.1] at hc
    refine rd_told hc fun t2 H5 s5 ht2 => ?_
    have S5 := (S3.trans s4).trans s5
    have hx5 := S5 _ _ hx1
    refine ⟨_, rfl, rd_neP (p := p) ht2 hx5 ⟨_, rfl, ?_⟩⟩
    have hv5 := hv1.same S5
    have hb5 := hb1.same S5
    have sb5 : SB b H H5 := s1.trans (Same.sb S5)
    clear hv1 hb1 hx1 hx2 hx3 S3 s2 s3 s4 s5 hc ht2 ht S5
    -- something odd
    refine ⟨_, rfl, sz 1, ?_⟩
    intro l1 nl1; generalize he' : upd _ _ _ = G1; obtain ⟨g1, hl1⟩ := new_facts nl1 he'; clear he'
    refine ⟨_, rfl, sz 1, ?_⟩
    intro l2 nl2; generalize he' : upd _ _ _ = G2; obtain ⟨g2, hl2⟩ := new_facts nl2 he'; clear he'
    intro l3 nl3
    generalize he' : upd G2 l3 _ = G3
    obtain ⟨g3, hl3⟩ := new_facts nl3 he'
    clear he'
    intro l4 nl4
    generalize he' : upd G3 l4 _ = G4
    obtain ⟨g4, hl4⟩ := new_facts nl4 he'
    clear he'
    refine ⟨_, rfl, hl4, [(.inr "1", v)], rfl, Nat.le_of_ble_eq_true rfl, ?_⟩
    generalize he' : upd G4 l4 _ = G5
    have hl5 : G5 l4 = some (.dK (mergeK [] [(.inr "1", v)])) := by rw [← he']; exact upd_same
    have g5 : Same G3 G5 := by rw [← he']; exact same_upd nl4 g4
    clear he'
    refine ⟨sz 9, ?_⟩
    intro l6 nl6; generalize he' : upd _ _ _ = G6; obtain ⟨g6, hl6⟩ := new_facts nl6 he'; clear he'
    have hb6 := hb5.same (((g1.trans g2).trans g3).trans (g5.trans g6))
    have nb : ∀ {G : Hp} {l : Addr}, Same H5 G → G l = none → l ≠ b := fun sg ng z => by
      obtain ⟨_, _, _, e, _⟩ := hb5.same sg
      rw [z, e] at ng; cases ng
    have n1 : l1 ≠ b := nb (fun _ _ e => e) nl1
    have n3 : l6 ≠ b := nb (((g1.trans g2).trans g3).trans g5) nl6
    refine ⟨_, rfl, b, _, _, rfl, hb6, by omega, by decide, bdS (by decide), fun r G7 r0 r1 s7 hb7 => ?_⟩
    have hl1' := s7 _ _ (((g2.trans g3).trans (g5.trans g6)) _ _ hl1) n1
    have hl2' := sb_keep s7 hb6 ((g3.trans (g5.trans g6)) _ _ hl2) (fun l z => nomatch z)
    have hl3' := sb_keep s7 hb6 ((g5.trans g6) _ _ hl3) (fun l z => nomatch z)
    have hl4' := sb_keep s7 hb6 (g6 _ _ hl5) (fun l z => nomatch z)
    have hl6' := s7 _ _ hl6 n3
    have sb7 : SB b H G7 := (sb5.trans (Same.sb (((g1.trans g2).trans g3).trans (g5.trans g6)))).trans s7
    have hodd : ∃ o, atI [V.non, .bl true, .bl false, .str "1", .ref l1, .ref l2, .ref l3, .str "", .ref l4] r = some o ∧ Odd K G7 o := by
      have hr : r = 0 ∨ r = 1 ∨ r = 2 ∨ r = 3 ∨ r = 4 ∨ r = 5 ∨ r = 6 ∨ r = 7 ∨ r = 8 := by omega
      rcases hr with rfl | rfl | rfl | rfl | rfl | rfl | rfl | rfl | rfl
      · exact ⟨_, rfl, ord_ty (n := "NoneType") (by decide) (by decide) (.base .non)⟩
      · exact ⟨_, rfl, ord_ty (n := "bool") (by decide) (by decide) (.base (.bl true))⟩
      · exact ⟨_, rfl, ord_ty (n := "bool") (by decide) (by decide) (.base (.bl false))⟩
      · exact ⟨_, rfl, ord_ty (n := "str") (by decide) (by decide) (.base (.str _))⟩
      · exact ⟨_, rfl, ord_ty (n := "list") (by decide) (by decide) (.base (.lst hl1'))⟩
      · exact ⟨_, rfl, ord_ty (n := "tuple") (by decide) (by decide) (.base (.tup hl2'))⟩
      · exact ⟨_, rfl, ord_ty (n := "dict") (by decide) (by decide) (.base (.dK hl3'))⟩
      · exact ⟨_, rfl, ord_ty (n := "str") (by decide) (by decide) (.base (.str _))⟩
      · exact ⟨_, rfl, ord_ty (n := "dict") (by decide) (by decide) (.base (.dK hl4'))⟩
    obtain ⟨o, eo, ho⟩ := hodd
    refine rd_ixL hl6' eo ?_
    obtain ⟨to, hto, hoo, hno⟩ := id ho
    refine ⟨_, rfl, o, to, _, rfl, hto, hoo, hno, ?_⟩
    refine ⟨_, rfl, o, rfl, .inl ⟨ho, ?_⟩⟩
    refine ⟨_, rfl, o, rfl, .inl ⟨ho, sz 3, ?_⟩⟩
    intro m1 nm1; generalize he' : upd _ _ _ = F1; obtain ⟨f1, hm1⟩ := new_facts nm1 he'; clear he'
    refine ⟨sz 3, ?_⟩
    intro m2 nm2; generalize he' : upd _ _ _ = F2; obtain ⟨f2, hm2⟩ := new_facts nm2 he'; clear he'
    have S2 := f1.trans f2
    refine ⟨.list [.bool false, .bool false, .bool false], .list [.bool false, .bool false, .bool false], .lst (SqL.of (f2 _ _ hm1)) (.cons (.bl _) (.cons (.bl _) (.cons (.bl _) .nil))), .lst (SqL.of hm2) (.cons (.bl _) (.cons (.bl _) (.cons (.bl _) .nil))), rfl, rfl, ?_⟩
    exact k _ (sb7.trans (Same.sb S2)) ((hb7.same S2).mono (by omega))
theorem ok__law_kinds_right (T : TX K mg) : FnR P w K mg base (L2.CX P w) 9 (ga K "_law_kinds_right") SpKinds := (okd__law_kinds_right T).r (fun _ _ _ _ _ _ us hl => match us, hl with | [_, _], _ => rfl)
end
end Lw
set_option Elab.async false
set_option linter.all false
set_option maxRecDepth 100000
set_option maxHeartbeats 4000000
/-! Lists. -/
namespace Lw
open PySem PySem.Spec PyProof.Rows L2 He Wl
/-! ### when one list changes -/
theorem sbl_keep {H H' : Hp} {b x : Addr} {l0 : List V} {o : HO} (s : SB b H H') (hb : H b = some (.lst l0)) (h : H x = some o) (ho : ∀ l, o ≠ .lst l) : H' x = some o := by
  refine s x o h fun z => ?_
  rw [z, hb] at h
  exact ho _ (Option.some.inj h).symm
theorem sbl_num {H H' : Hp} {b R : Addr} {v : V} {l0 : List V} {p q : Int} (s : SB b H H') (hb : H b = some (.lst l0)) (h : NumAt R H v p q) : NumAt R H' v p q := by
  rcases h with h | ⟨a, e, dx, h⟩
  · exact .inl h
  · refine .inr ⟨a, e, dx, ?_⟩
    rcases h with ⟨h1, h2⟩ | ⟨h1, h2⟩
    · exact .inl ⟨sbl_keep s hb h1 (fun l z => nomatch z), h2⟩
    · exact .inr ⟨sbl_keep s hb h1 (fun l z => nomatch z), sbl_keep s hb h2 (fun l z => nomatch z)⟩
theorem Bag.off {H H' : Hp} {b D : Addr} {n : Int} (h : Bag H b n) (s : SB D H H') (ne : b ≠ D) : Bag H' b n := by
  obtain ⟨w0, w1, c, e, r⟩ := h
  exact ⟨w0, w1, c, s _ _ e ne, r⟩
/-- a list of pairs stands at l -/
structure PairsAt (H : Hp) (l : Addr) (ts : List Addr) (ps : List Pr) : Prop where
  at_ : H l = some (.lst (ts.map V.ref))
  len : ps.length = ts.length
  get : ∀ (i : Nat) (t : Addr), ts[i]? = some t → ∃ p, ps[i]? = some p ∧ H t = some (tupP p)
theorem PairsAt.same {H H' : Hp} {l : Addr} {ts : List Addr} {ps : List Pr} (s : Same H H') (h : PairsAt H l ts ps) : PairsAt H' l ts ps :=
  ⟨s _ _ h.at_, h.len, fun i t e => let ⟨p, h1, h2⟩ := h.get i t e; ⟨p, h1, s _ _ h2⟩⟩
theorem PairsAt.sb {H H' : Hp} {l b : Addr} {n : Int} {ts : List Addr} {ps : List Pr} (s : SB b H H') (hb : Bag H b n) (ne : l ≠ b) (h : PairsAt H l ts ps) : PairsAt H' l ts ps :=
  ⟨s _ _ h.at_ ne, h.len, fun i t e => let ⟨p, h1, h2⟩ := h.get i t e; ⟨p, h1, sb_pair s hb h2⟩⟩
theorem PairsAt.nth {H : Hp} {l : Addr} {ts : List Addr} {ps : List Pr} (h : PairsAt H l ts ps) {i : Nat} (hi : i < ps.length) : ∃ t, (ts.map V.ref)[i]? = some (.ref t) ∧ H t = some (tupP (ps.getD i (0, 1))) ∧ ps.getD i (0, 1) ∈ ps := by
  have hx : ts[i]? = some (ts[i]'(by have := h.len; omega)) := by simp [show i < ts.length by have := h.len; omega]
  obtain ⟨p, e, hp⟩ := h.get i _ hx
  refine ⟨_, by rw [List.getElem?_map, hx]; rfl, ?_, ?_⟩
  · simp [List.getD, e]; exact hp
  · simp [List.getD, e]; exact List.mem_of_getElem? e
theorem NumAt.plain {R : Addr} {H : Hp} {v : V} {p q : Int} (h : NumAt R H v p q) : (∃ a, v = .ref a) ∨ ∃ i, v = .int i := by
  rcases h with ⟨h, _⟩ | ⟨a, h, _⟩
  · exact .inr ⟨_, h⟩
  · exact .inl ⟨_, h⟩
/-- the items are the numbers -/
def Its (R : Addr) (H : Hp) (xs : List V) (ps : List Pr) : Prop := ∀ (i : Nat) (x : V), xs[i]? = some x → ∃ p, ps[i]? = some p ∧ NumAt R H x p.1 p.2
section
variable {P : Program} {w : World} {K : PySem.W.Frag} {mg : Str → Option Value} {base : Heap}
structure SpLists (vs : List V) (H : Hp) (Q : VK) (E : XK) : Prop where
  h : ∃ b n l ts ps, vs = [.ref b, .ref l] ∧ Bag H b n ∧ n ≤ 70000 ∧ PairsAt H l ts ps ∧ l ≠ b ∧ (∀ p ∈ ps, Fine p) ∧ 0 < ps.length ∧ ps.length ≤ 6 ∧ ∀ H', SB b H H' → Bag H' b (n + 8) → Q (.bl true) H'
theorem okd__law_lists_right (T : TX K mg) : FnD P w K mg base 9 (ga K "_law_lists_right") ["_law_bag_here", "_law_some"] SpLists d__law_lists_right.name d__law_lists_right.qual d__law_lists_right.params d__law_lists_right.body d__law_lists_right.scope := by
  refine fnD_of (T.d 43) sc__law_lists_right (fun vs H Q E h => ?_) (fun cdv A outer s H vs Q E hr h => ?_)
  · obtain ⟨b, n, l, ts, ps, rfl, _⟩ := h; rfl
  · obtain ⟨b, n, l, ts, ps, rfl, hb, hn, hl, nlb, hf, p0, p6, k⟩ := h
    refine ⟨_, pss_cons (ps_setLc (i := 2) (own := [("_law_x", 3)]) (by rfl) sc__law_lists_right.nd rfl rfl (sw_true rfl rfl rfl (by decide +kernel)) (pi_list (pv 1)) (blkOk_by (own := [("_law_x", 3)]) (N := ["_law_bag_here", "_law_some", "_law_things", "_law_x", "_law_handed", "_law_kept", "_law_found", "_law_low", "_law_high", "_law_place"]) (sc := defScope s__law_lists_right) (by decide +kernel)) (fun _ _ _ _ _ => (pg_name (i := 3) sc__law_lists_right.nd rfl (.inl rfl))) (fun _ _ _ _ _ => pts_nil) (fun _ _ _ _ _ => (pe_callR (ok__law_made T) (hr.mono (by decide)) (T.kg 40) (by rfl) (T.g 25) passL (pa_cons (pv 0) (pa_cons (pv 3) pa_nil))))) (pss_cons (ps_par (by rfl) sc__law_lists_right.nd (i := 4) (j := 5) rfl rfl (by decide) rfl rfl (pa_cons (pe_ix ix_seq (pe_lst (pa_cons (pv 2) (pa_cons (pe_callTy call_tuple_of (by rfl) (T.f 50) (by decide +kernel) (pa_cons (pv 2) pa_nil)) pa_nil))) (pe_callR (ok__law_take T) (hr.mono (by decide)) (T.kg 30) (by rfl) (T.g 15) passL (pa_cons (pv 0) (pa_cons pe_int pa_nil))) (fun _ _ => rfl)) (pa_cons (pe_callTy call_list_of (by rfl) (T.f 43) (by decide +kernel) (pa_cons (pv 2) pa_nil)) pa_nil)) (by rfl)) (pss_cons (ps_set (i := 6) sc__law_lists_right.nd rfl (.inl rfl) (pe_tup (pa_cons pe_int (pa_cons pe_int pa_nil)))) (pss_cons (ps_asg (pe_tup (pa_cons pe_int (pa_cons pe_int pa_nil))) (pg_tup rfl (pgs_cons (pg_name (i := 7) sc__law_lists_right.nd rfl (.inl rfl)) (pgs_cons (pg_name (i := 8) sc__law_lists_right.nd rfl (.inl rfl)) pgs_nil)))) (pss_cons (ps_for (passes_of rfl) rfl (pi_enumS (by rfl) (T.f 39) (pa_cons (pv 1) pa_nil)) (pg_tup rfl (pgs_cons (pg_name (i := 9) sc__law_lists_right.nd rfl (.inl rfl)) (pgs_cons (pg_name (i := 3) sc__law_lists_right.nd rfl (.inl rfl)) pgs_nil))) (pss_cons (ps_set (i := 6) sc__law_lists_right.nd rfl (.inl rfl) (pe_callR (ok__law_plus T) (hr.mono (by decide)) (T.kg 32) (by rfl) (T.g 17) passL (pa_cons (pv 6) (pa_cons (pv 3) pa_nil)))) (pss_cons (ps_set (i := 7) sc__law_lists_right.nd rfl (.inl rfl) (pe_ifExp (pt_val (pe_callR (ok__law_less T) (hr.mono (by decide)) (T.kg 36) (by rfl) (T.g 21) passL (pa_cons (pv 3) (pa_cons (pe_ix ix_seq (pv 1) (pv 7) (fun _ _ => rfl)) pa_nil)))) (pv 9) (pv 7))) (pss_one (ps_set (i := 8) sc__law_lists_right.nd rfl (.inl rfl) (pe_ifExp (pt_val (pe_callR (ok__law_less T) (hr.mono (by decide)) (T.kg 36) (by rfl) (T.g 21) passL (pa_cons (pe_ix ix_seq (pv 1) (pv 8) (fun _ _ => rfl)) (pa_cons (pv 3) pa_nil)))) (pv 9) (pv 8))))))) (pss_cons (ps_if (pt_cmpR (op_neD hr.units) (pe_lst (pa_cons (pe_callR (ok_least T) (hr.mono (by decide)) (T.kg 26) (by rfl) (T.g 11) passL (pa_cons (pv 4) pa_nil)) (pa_cons (pe_callR (ok_greatest T) (hr.mono (by decide)) (T.kg 27) (by rfl) (T.g 12) passL (pa_cons (pv 4) pa_nil)) pa_nil))) (pe_lst (pa_cons (pv 7) (pa_cons (pv 8) pa_nil))) (nomark _)) (pss_one (ps_ret pe_bl)) (pss_nil)) (pss_one (ps_ret (pe_and (pe_cmpR (op_eqD hr.units) (pe_callR (ok__law_told T) (hr.mono (by decide)) (T.kg 37) (by rfl) (T.g 22) passL (pa_cons (pe_callR (ok_total T) (hr.mono (by decide)) (T.kg 25) (by rfl) (T.g 10) passL (pa_cons (pv 4) pa_nil)) pa_nil)) (pv 6) (nomark _)) (pe_one (pe_cmpR (op_eqLG mon_self eqG_self (hr.mono (by decide))) (pe_callTy call_list_of (by rfl) (T.f 43) (by decide +kernel) (pa_cons (pv 4) pa_nil)) (pv 5) (nomark _))))))))))), ?_⟩
    refine ⟨_, rfl, l, rfl, ⟨_, SqL.of hl.at_⟩, ?_⟩
    intro D nD
    have nDb : D ≠ b := fun z => by
      obtain ⟨_, _, _, e, _⟩ := hb
      rw [z, e] at nD; cases nD
    have nDl : l ≠ D := fun z => by
      have e := hl.at_
      rw [z, nD] at e; cases e
    refine lc_list (K := K) (a := l) (xs := ts.map V.ref) (fun i H3 => SB b H H3 ∧ Bag H3 b (n + i) ∧ ∃ acc, H3 D = some (.lst acc) ∧ acc.length = i ∧ Its (ga K "Ratio") H3 acc ps) ?_ ?_ ?_ ?_
    · exact ⟨Same.sb (same_new nD), (hb.same (same_new nD)).mono (by simp), [], upd_same, rfl, fun i x h => by simp at h⟩
    · rintro i H3 _ ⟨s3, _⟩
      exact SqL.of (s3 _ _ hl.at_ nlb)
    · rintro i x H3 hx ⟨s3, hb3, acc, hD, hacc, hI⟩
      have hi : i < ps.length := by
        have := (List.getElem?_eq_some_iff.mp hx).1
        simp at this
        have := hl.len; omega
      obtain ⟨t, ht, htp, hm⟩ := (hl.sb s3 hb nlb).nth hi
      rw [hx] at ht; cases ht
      refine ⟨rfl, ?_⟩
      refine ⟨_, rfl, _, rfl, b, _, t, _, rfl, hb3, by omega, htp, hf _ hm, fun v H4 s4 hb4 hv4 => ?_⟩
      have hD4 := s4 _ _ hD nDb
      refine ⟨acc, hD4, ?_, ?_, ?_, acc ++ [v], upd_same, by simp [hacc], ?_⟩
      · rw [hacc]; exact Nat.lt_of_lt_of_le (show i < 100 by omega) (sz 100)
      · refine fun c o e ne => ?_
        rw [upd_ne (ne_of_none e nD)]
        exact s4 _ _ (s3 _ _ e ne) ne
      · refine Bag.off (hb4.mono ?_) SB.upd (Ne.symm nDb)
        push_cast; omega
      · intro j y hj
        rcases Nat.lt_or_ge j acc.length with hlt | hge
        · rw [List.getElem?_append_left hlt] at hj
          obtain ⟨p, e, hp⟩ := hI j y hj
          exact ⟨p, e, sbl_num SB.upd hD4 (sb_num s4 hb3 hp)⟩
        · rw [List.getElem?_append_right hge] at hj
          have hj0 : j = i := by
            have := (List.getElem?_eq_some_iff.mp hj).1
            simp at this
            omega
          subst hj0
          rw [hacc, Nat.sub_self] at hj
          cases hj
          refine ⟨ps.getD j (0, 1), by simp [List.getD, hi], sbl_num SB.upd hD4 hv4⟩
    · rintro H3 ⟨s3, hb3, acc, hD, hacc, hI⟩
      have hlen : ps.length = acc.length := by rw [hacc, hl.len, List.length_map]
      have hl3 := hl.sb s3 hb nlb
      have hb3 : Bag H3 b (n + 6) := hb3.mono (by simp; have := hl.len; omega)
      -- handed, kept
      refine ⟨_, rfl, _, rfl, D, acc, rfl, .inl ⟨SqL.of hD, ?_⟩⟩
      intro t1 nt1; generalize he' : upd _ _ _ = G1; obtain ⟨g1, ht1⟩ := new_facts nt1 he'; clear he'
      refine ⟨sz 2, ?_⟩
      intro l2 nl2; generalize he' : upd _ _ _ = G2; obtain ⟨g2, hl2⟩ := new_facts nl2 he'; clear he'
      have g12 := g1.trans g2
      have hbG := hb3.same g12
      have nb2 : l2 ≠ b := fun z => by
        obtain ⟨_, _, _, e, _⟩ := hb3.same g1
        rw [z, e] at nl2; cases nl2
      refine ⟨_, rfl, b, _, _, rfl, hbG, by omega, by decide, bdS (by decide), fun r H4 r0 r1 s4 hb4 => ?_⟩
      have hI4 : Its (ga K "Ratio") H4 acc ps := fun i x hx => let ⟨p, e, hp⟩ := hI i x hx; ⟨p, e, sb_num s4 hbG (hp.same g12)⟩
      have hD4 := s4 _ _ (g12 _ _ hD) nDb
      have ht4 := sb_keep s4 hbG (g2 _ _ ht1) (fun l z => nomatch z)
      have hl4 := s4 _ _ hl2 nb2
      have hs4 := (hl3.same g12).sb s4 hbG nlb
      have sb4 : SB b H H4 := (s3.trans (Same.sb g12)).trans s4
      have hh : ∃ a o, atI [V.ref D, .ref t1] r = some (.ref a) ∧ H4 a = some o ∧ SeqO o acc := by
        have hr : r = 0 ∨ r = 1 := by omega
        rcases hr with rfl | rfl
        · exact ⟨D, _, rfl, hD4, .inl rfl⟩
        · exact ⟨t1, _, rfl, ht4, .inr rfl⟩
      obtain ⟨a, o, ea, ha4, ho⟩ := hh
      refine rd_ixL hl4 ea ?_
      refine ⟨_, rfl, D, acc, rfl, .inl (SqL.of hD4), ?_⟩
      intro kl nkl; generalize he' : upd _ _ _ = H5; obtain ⟨g5, hkl⟩ := new_facts nkl he'; clear he'
      have N5 : Nums (ga K "Ratio") H5 a o acc ps := ⟨g5 _ _ ha4, ho, hlen, fun i x hx => let ⟨p, e, hp⟩ := hI4 i x hx; ⟨p.1, p.2, e, hp.same g5⟩⟩
      have hs5 := hs4.same g5
      have hb5 := hb4.same g5
      have sb5 : SB b H H5 := sb4.trans (Same.sb g5)
      have hflat : ∀ x ∈ acc, (∃ a, x = .ref a) ∨ ∃ i, x = .int i := fun x hx => by
        obtain ⟨i, hi⟩ := List.getElem?_of_mem hx
        obtain ⟨p, e, hp⟩ := hI4 i x hi
        exact hp.plain
      clear hI4 hD4 ht4 hl4 hs4 sb4 ha4 hI hD s3 s4 hb3 hbG hl2 ht1 g1 g2 g12 hb4 g5 hl3
      refine ⟨_, _, rfl, ?_⟩
      -- found = (0, 1); low, high = (0, 0)
      refine ⟨sz 2, ?_⟩
      intro f0 nf0; generalize he' : upd _ _ _ = H6; obtain ⟨g6, hf0⟩ := new_facts nf0 he'; clear he'
      refine ⟨sz 2, ?_⟩
      intro z0 nz0; generalize he' : upd _ _ _ = H7; obtain ⟨g7, hz0⟩ := new_facts nz0 he'; clear he'
      refine ⟨z0, _, rfl, SqT.of hz0, rfl, _, _, rfl, _, _, rfl, rfl, ?_⟩
      have g67 := g6.trans g7
      refine rd_enumV rfl (.inl rfl) (g67 _ _ hs5.at_) fun J W => ?_
      refine for_it W (fun i σ H8 => Same H5 H8 ∧ ∃ f z1 z2, σ = [some (.ref b), some (.ref l), some (.ref D), z1, some (.ref a), some (.ref kl), some (.ref f), some (.int (lowI ps i : Nat)), some (.int (highI ps i : Nat)), z2] ∧ H8 f = some (tupP (totI ps i))) ?_ ?_ ?_ ?_
      · exact ⟨g67, f0, none, none, rfl, g7 _ _ hf0⟩
      · rintro i σ H8 _ ⟨g8, _⟩
        exact g8 _ _ hs5.at_
      · rintro i x σ H8 _ hi ⟨g8, f, z1, z2, rfl, hf8⟩ ⟨t, x1, x2, rfl, nt, rfl, e1, hx⟩
        cases e1
        have hx : (ts.map V.ref)[i]? = some x2 := hx
        have hi' : i < ps.length := by rw [List.length_map] at hi; have := hl.len; omega
        have g9 : Same H5 (upd H8 t (.tup [.int (i : Nat), x2])) := g8.trans (same_new nt)
        have hs9 := hs5.same g9
        obtain ⟨tx, htx, hpx, hmx⟩ := hs9.nth hi'
        rw [hx] at htx; cases htx
        obtain ⟨q1, q2, q3⟩ := totI_ok ps hf i (Nat.le_of_lt hi')
        have okT : Okp (totI ps i) := ⟨q1.ne, q2.mono (by omega), q3.mono (by omega)⟩
        have okx := (hf _ hmx).ok
        refine ⟨t, _, rfl, SqT.of upd_same, rfl, _, _, rfl, _, _, rfl, rfl, ?_⟩
        refine ⟨_, rfl, _, rfl, rd_pl (same_new nt _ _ hf8) hpx okT okx trivial fun f2 H9 g10 hf2 => ?_⟩
        have g11 := g9.trans g10
        have hs11 := hs5.same g11
        have hpx11 := g10 _ _ hpx
        obtain ⟨tl, htl, hpl, hml⟩ := hs11.nth (lowI_lt (ps := ps) i (Nat.le_of_lt hi') p0)
        obtain ⟨th, hth, hph, hmh⟩ := hs11.nth (highI_lt (ps := ps) i (Nat.le_of_lt hi') p0)
        refine ⟨_, rfl, _, rfl, _, rfl, rd_ixL hs11.at_ (atI_nat htl) ⟨_, _, _, _, rfl, hpx11, hpl, okx, (hf _ hml).ok, _, rfl, ?_⟩⟩
        have fin : ∀ lo : Nat, lo = lowI ps (i + 1) → (tAsg (tIf (tB (tCallR spLess E0 (tCons (tOp (rIx K) (tVar 1) (tVar 8)) (tCons (tVar 3) tNil)))) (tVar 9) (tVar 8)) (gName 8)) { nx := fun σ H8 => Same H5 H8 ∧ ∃ f z1 z2, σ = [some (.ref b), some (.ref l), some (.ref D), z1, some (.ref a), some (.ref kl), some (.ref f), some (.int (lowI ps (i + 1) : Nat)), some (.int (highI ps (i + 1) : Nat)), z2] ∧ H8 f = some (tupP (totI ps (i + 1))), rt := Q } [some (.ref b), some (.ref l), some (.ref D), some (.ref tx), some (.ref a), some (.ref kl), some (.ref f2), some (.int (lo : Nat)), some (.int (highI ps i : Nat)), some (.int (i : Nat))] H9 := by
          intro lo elo
          refine ⟨_, rfl, _, rfl, rd_ixL hs11.at_ (atI_nat hth) ⟨_, rfl, _, _, _, _, rfl, hph, hpx11, (hf _ hmh).ok, okx, _, rfl, ?_⟩⟩
          refine ite2 (fun hc => ?_) (fun hc => ?_)
          · have e : highI ps (i + 1) = i := if_pos hc
            exact ⟨_, rfl, g11, f2, _, _, by rw [e, elo]; rfl, hf2⟩
          · have e : highI ps (i + 1) = highI ps i := if_neg hc
            exact ⟨_, rfl, g11, f2, _, _, by rw [e, elo]; rfl, hf2⟩
        refine ite2 (fun hc => ?_) (fun hc => ?_)
        · have e : lowI ps (i + 1) = i := if_pos hc
          exact ⟨_, rfl, fin i e.symm⟩
        · have e : lowI ps (i + 1) = lowI ps i := if_neg hc
          exact ⟨_, rfl, fin _ e.symm⟩
      · rintro σ H8 ⟨g8, f, z1, z2, rfl, hf8⟩
        rw [List.length_map, ← hl.len] at hf8
        have N8 := N5.same g8
        have e20 : acc.length ≤ 20 := by omega
        refine ⟨_, rfl, .ref a, rfl, .inr ⟨a, o, acc, ps, rfl, N8, by omega, e20, hf, fun H9 g9 => ?_⟩⟩
        refine ⟨_, rfl, .ref a, rfl, .inr ⟨a, o, acc, ps, rfl, N8.same g9, by omega, e20, hf, fun H10 g10 => ?_⟩⟩
        refine ⟨sz 2, ?_⟩
        intro m1 nm1; generalize he' : upd _ _ _ = H11; obtain ⟨g11, hm1⟩ := new_facts nm1 he'; clear he'
        refine ⟨_, rfl, _, rfl, sz 2, ?_⟩
        intro m2 nm2; generalize he' : upd _ _ _ = H12; obtain ⟨g12, hm2⟩ := new_facts nm2 he'; clear he'
        have S12 := ((g9.trans g10).trans g11).trans g12
        rw [List.length_map, ← hl.len] at hm2
        refine ⟨.list [.int (lowI ps ps.length : Nat), .int (highI ps ps.length : Nat)], .list [.int (lowI ps ps.length : Nat), .int (highI ps ps.length : Nat)], .lst (SqL.of (g12 _ _ hm1)) (.cons (.int _) (.cons (.int _) .nil)), .lst (SqL.of hm2) (.cons (.int _) (.cons (.int _) .nil)), rfl, rfl, ?_⟩
        refine ⟨_, rfl, iteF (by simp [PyData.eqv, PyData.eqvAll]) ?_⟩
        refine ⟨_, rfl, .ref a, rfl, .inr ⟨a, o, acc, ps, rfl, N8.same S12, e20, hf, fun c H13 g13 hc => ?_⟩⟩
        refine rd_told hc fun t2 H14 g14 ht2 => ?_
        have S14 := (S12.trans g13).trans g14
        refine ⟨_, rfl, rd_eqP ht2 (S14 _ _ hf8) ⟨_, rfl, ?_⟩⟩
        refine ⟨_, rfl, a, acc, rfl, ho.sq ((g8.trans S14) _ _ N5.at_), ?_⟩
        intro l9 nl9; generalize he' : upd _ _ _ = H15; obtain ⟨g15, hl9⟩ := new_facts nl9 he'; clear he'
        have S15 := (g8.trans S14).trans g15
        refine ⟨_, rfl, ⟨l9, kl, acc, acc, rfl, rfl, hl9, (S15 _ _ hkl), Prs.self hflat⟩, fun H16 g16 => ?_⟩
        have S16 := S15.trans g16
        exact k _ (sb5.trans (Same.sb S16)) ((hb5.same S16).mono (by omega))
theorem ok__law_lists_right (T : TX K mg) : FnR P w K mg base (L2.CX P w) 9 (ga K "_law_lists_right") SpLists := (okd__law_lists_right T).r (fun _ _ _ _ _ _ us hl => match us, hl with | [_, _], _ => rfl)
end
end Lw
set_option Elab.async false
set_option linter.all false
set_option maxRecDepth 100000
set_option maxHeartbeats 4000000
/-! The law. -/
namespace Lw
open PySem PySem.Spec PyProof.Rows L2 He Wl
section
variable {X : Cx} {p pos : Pos} {kws : List Keyword} {tk : TA} {E : XK}
theorem pe_ratioKBT (T : TX X.K X.mg) (hr : Room (3 + 1) X.A) (hg : Gl X "Ratio") (hm : X.mg "Ratio" = some (.ref (ga X.K "Ratio"))) (hx : Passes (L2.CX X.prog X.w) X E) (hkw : PK X kws tk)
    (hall : (backToKw pos (keywordEach kws X.env)).all (·.1.isSome) = true := by rfl) (hks : (backToKw pos (keywordEach kws X.env)).filterMap (·.1) = ([("bottom" : Str), ("top" : Str)] : List Str) := by rfl)
    (hpl : ((backTo pos (starEach [] X.env)).any (·.1) || (backToKw pos (keywordEach kws X.env)).any (·.1.isNone)) = false := by rfl) :
    PE X (.Call (.Name "Ratio" p) [] kws pos) (tCallR (fun vs H Q E => vs.length = 2 ∧ SpMk X.K [] vs.reverse H Q E) E tk) := by
  obtain ⟨fd, F, G⟩ := ok_init0 (P := X.prog) (w := X.w) (base := X.base) T
  obtain ⟨its, hb⟩ := F.kbindsD (ps := ["self", "top", "bottom"]) 1 ["bottom", "top"] (fun us its ws => us ++ ws.reverse) (by simp) (fun r1 r2 r3 => Vals.append r1 (Vals.reverse r3)) (fun T kV doc pm an cdv ct us its ws l1 l2 l3 => match us, its, ws, l1, l2, l3 with | [_], [_], [_, _], _, _, _ => ⟨_, rfl, rfl⟩)
  refine pe_makeKS (x_r T).make G hr hg hm hb hx (fun zs H Q h => ⟨h.1, fun x dx e1 e2 e3 => ?_⟩) hkw hall hks (by decide) hpl
  have z := h.2.raw x dx e1 e2 e3
  rw [List.append_nil] at z
  exact z
theorem pe_ratioKTB (T : TX X.K X.mg) (hr : Room (3 + 1) X.A) (hg : Gl X "Ratio") (hm : X.mg "Ratio" = some (.ref (ga X.K "Ratio"))) (hx : Passes (L2.CX X.prog X.w) X E) (hkw : PK X kws tk)
    (hall : (backToKw pos (keywordEach kws X.env)).all (·.1.isSome) = true := by rfl) (hks : (backToKw pos (keywordEach kws X.env)).filterMap (·.1) = ([("top" : Str), ("bottom" : Str)] : List Str) := by rfl)
    (hpl : ((backTo pos (starEach [] X.env)).any (·.1) || (backToKw pos (keywordEach kws X.env)).any (·.1.isNone)) = false := by rfl) :
    PE X (.Call (.Name "Ratio" p) [] kws pos) (tCallR (fun vs H Q E => vs.length = 2 ∧ SpMk X.K [] vs H Q E) E tk) := by
  obtain ⟨fd, F, G⟩ := ok_init0 (P := X.prog) (w := X.w) (base := X.base) T
  obtain ⟨its, hb⟩ := F.kbindsD (ps := ["self", "top", "bottom"]) 1 ["top", "bottom"] (fun us its ws => us ++ ws) (by simp) (fun r1 r2 r3 => Vals.append r1 r3) (fun T kV doc pm an cdv ct us its ws l1 l2 l3 => match us, its, ws, l1, l2, l3 with | [_], [_], [_, _], _, _, _ => ⟨_, rfl, rfl⟩)
  refine pe_makeKS (x_r T).make G hr hg hm hb hx (fun zs H Q h => ⟨h.1, fun x dx e1 e2 e3 => ?_⟩) hkw hall hks (by decide) hpl
  have z := h.2.raw x dx e1 e2 e3
  rw [List.append_nil] at z
  exact z
/-- a Ratio beside its number, or flat and equal -/
def DNum (K : PySem.W.Frag) : Eqv := fun x y H => (∃ a p q, x = .ref a ∧ RatAt (ga K "Ratio") H a p q ∧ NumAt (ga K "Ratio") H y p q) ∨ DFlat x y H
theorem mon_num (K : PySem.W.Frag) : Mon (DNum K) := fun x y H H' e d => by
  rcases d with ⟨a, p, q, h1, h2, h3⟩ | d
  · exact .inl ⟨a, p, q, h1, h2.same e, h3.same e⟩
  · exact .inr d
theorem eqG_num (T : TX X.K X.mg) : EqG X 6 (DNum X.K) := by
  refine EqG.or (eqG_own (fun x y H => ∃ a p q, x = .ref a ∧ RatAt (ga X.K "Ratio") H a p q ∧ NumAt (ga X.K "Ratio") H y p q) (x_r T).eq.at_ (x_r T).eq.fn (ok_Ratio___eq__ T) fun x y H d => ?_) (eqG_flat.mono (Nat.zero_le _))
  obtain ⟨a, p, q, rfl, ⟨dx, ha⟩, hn⟩ := d
  obtain ⟨t, h1, h2, h3⟩ := numT_of (R := 0) hn
  exact ⟨a, dx, _, t, rfl, ha, h1, nf_ok T h2, a, y, p, q, rfl, ⟨dx, ha⟩, .inr ⟨p, q, hn, fun H' s' => ⟨by simp, s'⟩⟩⟩
end
theorem fine_nrm {u d : Int} (hd : d ≠ 0) (bu : Bd 100 u) (bd : Bd 100 d) : Fine (nrm u d) := ⟨nrm_low hd, (bu.le (nrm_le1 hd)).mono (by decide), (bd.le (nrm_le2 hd)).mono (by decide)⟩
theorem fine_neg {p : Pr} (h : Fine p) : Fine (-p.1, p.2) := ⟨⟨h.1.1, (Int.neg_gcd (a := p.1) (b := p.2)).trans h.1.2⟩, h.2.1.neg, h.2.2⟩
theorem fine01 : Fine (0, 1) := ⟨low_one 0, bd_of (by decide), bd_of (by decide)⟩
theorem PairsAt.push {H H' : Hp} {l t : Addr} {ts : List Addr} {ps : List Pr} {p : Pr} (h : PairsAt H l ts ps) (s : SB l H H') (e : H' l = some (.lst ((ts ++ [t]).map V.ref))) (ht : H t = some (tupP p)) : PairsAt H' l (ts ++ [t]) (ps ++ [p]) := by
  refine ⟨e, by simp [h.len], fun i u hu => ?_⟩
  rcases Nat.lt_or_ge i ts.length with hi | hi
  · rw [List.getElem?_append_left hi] at hu
    obtain ⟨q, e1, e2⟩ := h.get i u hu
    exact ⟨q, by rw [List.getElem?_append_left (by rw [h.len]; exact hi)]; exact e1, sbl_keep s h.at_ e2 (fun l z => nomatch z)⟩
  · rw [List.getElem?_append_right hi] at hu
    have hi0 : i = ts.length := by
      have := (List.getElem?_eq_some_iff.mp hu).1
      simp at this
      omega
    subst hi0
    rw [Nat.sub_self] at hu
    cases hu
    exact ⟨p, by rw [← h.len, List.getElem?_append_right (Nat.le_refl _)]; simp, sbl_keep s h.at_ ht (fun l z => nomatch z)⟩
theorem PairsAt.dp {K : PySem.W.Frag} {H : Hp} {l : Addr} {ts : List Addr} {ps : List Pr} (h : PairsAt H l ts ps) : DpAll K H (ts.map V.ref) (ps.map fun p => PyData.tuple [.int p.1, .int p.2]) := by
  have h1 := h.len
  have h2 := h.get
  clear h
  induction ts generalizing ps with
  | nil =>
    cases ps with
    | nil => exact .nil
    | cons p ps => cases h1
  | cons t ts ih =>
    cases ps with
    | nil => cases h1
    | cons p ps =>
      obtain ⟨q, e, hq⟩ := h2 0 t rfl
      cases e
      exact .cons (.tup (SqT.of hq) (.cons (.int _) (.cons (.int _) .nil))) (ih (by simpa using h1) fun i u hu => h2 (i + 1) u hu)
theorem bd1 {x : Int} (h : x.natAbs < 2 ^ 10) {n : Nat} (hn : 10 ≤ n := by decide) : Bd n x := Bd.mono (m := 10) h hn
theorem nums_ints {R : Addr} {H : Hp} {a : Addr} {o : HO} (is : List Int) (h : H a = some o) (ho : SeqO o (is.map V.int)) : Nums R H a o (is.map V.int) (is.map fun i => (i, 1)) := by
  refine ⟨h, ho, by simp, fun i x hx => ?_⟩
  rw [List.getElem?_map] at hx
  cases e : is[i]? with
  | none => rw [e] at hx; cases hx
  | some n =>
    rw [e] at hx
    cases hx
    exact ⟨n, 1, by rw [List.getElem?_map, e]; rfl, .int n⟩
theorem fine_ints {is : List Int} (h : ∀ i ∈ is, i.natAbs < 2 ^ 101) : ∀ p ∈ is.map (fun i => ((i, 1) : Pr)), Fine p := by
  intro p hp
  obtain ⟨i, hi, rfl⟩ := List.mem_map.mp hp
  exact ⟨low_one i, h i hi, bd_of (by show (1 : Int).natAbs < _; decide)⟩
theorem pairs_lay : ∀ ps : List Pr, PyData.canLayAll0 (ps.map fun p => PyData.tuple [.int p.1, .int p.2]) = true ∧ PyData.depthAll (ps.map fun p => PyData.tuple [.int p.1, .int p.2]) ≤ 3
  | [] => ⟨rfl, by show PyData.depthAll [] ≤ 3; simp [PyData.depthAll]⟩
  | p :: ps => by
    obtain ⟨h1, h2⟩ := pairs_lay ps
    refine ⟨?_, ?_⟩
    · show PyData.canLayAll0 (_ :: _) = true
      rw [PyData.canLayAll0, h1]
      rfl
    · show PyData.depthAll (_ :: _) ≤ 3
      rw [PyData.depthAll]
      simp only [PyData.depth, PyData.depthAll]
      omega
theorem pairs_shaped (ps : List Pr) : SeqAt.shaped (.list (ps.map fun p => PyData.tuple [.int p.1, .int p.2])) = true := by
  obtain ⟨h1, h2⟩ := pairs_lay ps
  unfold SeqAt.shaped
  rw [Bool.and_eq_true]
  refine ⟨?_, decide_eq_true ?_⟩
  · rw [PyData.canLay0]; exact h1
  · rw [PyData.depth]; omega
section
variable {P : Program} {w : World} {K : PySem.W.Frag} {mg : Str → Option Value} {base : Heap}
def spLaw (K : PySem.W.Frag) : Sp := fun vs H Q _ => ∃ (a : Addr) (ns : List Int), vs = [.ref a] ∧ SqL K H a (ns.map V.int) ∧ ∀ H', Q (.bl true) H'
theorem okd_law (T : TX K mg) : FnD P w K mg base 12 (ga K "law") ["_law_script"] (spLaw K) d_law.name d_law.qual d_law.params d_law.body d_law.scope := by
  refine fnD_of (T.d 44) sc_law (fun vs H Q E h => ?_) (fun cdv A outer s H vs Q E hr h => ?_)
  · obtain ⟨a, ns, rfl, _⟩ := h; rfl
  · obtain ⟨a, ns, rfl, ha, k⟩ := h
    refine ⟨_, pss_cons (ps_for (passes_of rfl) rfl (pi_range1 (by rfl) (T.f 47) (pa_cons (pe_callB (call_max2 rfl) (by rfl) (T.f 44) (by decide +kernel) (pa_cons pe_int (pa_cons (pe_callB (call_min2 rfl) (by rfl) (T.f 45) (by decide +kernel) (pa_cons pe_int (pa_cons (pe_callB call_len_seq (by rfl) (T.f 42) (by decide +kernel) (pa_cons (pv 0) pa_nil)) pa_nil))) pa_nil))) pa_nil)) (pg_name (i := 1) sc_law.nd rfl (.inl rfl)) (pss_cons (ps_set (i := 2) sc_law.nd rfl (.inl rfl) (pe_callR (ok__law_bag T) (hr.mono (by decide)) (T.kg 29) (by rfl) (T.g 14) passL (pa_cons (pe_callR (ok__law_cell T) (hr.mono (by decide)) (T.kg 28) (by rfl) (T.g 13) passL (pa_cons (pv 0) (pa_cons (pv 1) pa_nil))) pa_nil))) (pss_cons (ps_set (i := 3) sc_law.nd rfl (.inl rfl) (pe_lst pa_nil)) (pss_cons (ps_for (passes_of rfl) rfl (pi_range1 (by rfl) (T.f 47) (pa_cons (pe_op op_add pe_int (pe_callR (ok__law_take T) (hr.mono (by decide)) (T.kg 30) (by rfl) (T.g 15) passL (pa_cons (pv 2) (pa_cons pe_int pa_nil)))) pa_nil)) (pg_name (i := 4) sc_law.nd rfl (.inl rfl)) (pss_cons (ps_asg (pe_callR (ok__law_pair T) (hr.mono (by decide)) (T.kg 39) (by rfl) (T.g 24) passL (pa_cons (pv 2) pa_nil)) (pg_tup rfl (pgs_cons (pg_name (i := 5) sc_law.nd rfl (.inl rfl)) (pgs_cons (pg_name (i := 6) sc_law.nd rfl (.inl rfl)) pgs_nil)))) (pss_cons (ps_set (i := 7) sc_law.nd rfl (.inl rfl) (pe_callR (ok__law_frac T) (hr.mono (by decide)) (T.kg 31) (by rfl) (T.g 16) passL (pa_cons (pv 5) (pa_cons (pv 6) pa_nil)))) (pss_cons (ps_if (PW.pt (pw_or (pt_cmpR (op_neD hr.units) (pe_callR (ok__law_told T) (hr.mono (by decide)) (T.kg 37) (by rfl) (T.g 22) passL (pa_cons (pe_ratio2 T (hr.mono (by decide)) (by rfl) (T.g 34) passL (pa_cons (pv 5) (pa_cons (pv 6) pa_nil))) pa_nil)) (pv 7) (nomark _)) (pw_or1 (pt_cmpR (op_neD hr.units) (pe_callR (ok__law_told T) (hr.mono (by decide)) (T.kg 37) (by rfl) (T.g 22) passL (pa_cons (pe_ratioKBT T (hr.mono (by decide)) (by rfl) (T.g 34) passL (pk_cons (pv 6) (pk_cons (pv 5) pk_nil))) pa_nil)) (pv 7) (nomark _))))) (pss_one (ps_ret pe_bl)) (pss_nil)) (pss_one (ps_expr (pe_bm PySem.F.plainAttrs_list PySem.F.slot_list_append PySem.F.type_list_append mt_append (pv 3) (pa_cons (pe_ifExp (PW.pt (pw_or (pt_cmpR op_gt (pe_callR (ok__law_take T) (hr.mono (by decide)) (T.kg 30) (by rfl) (T.g 15) passL (pa_cons (pv 2) (pa_cons pe_int pa_nil))) pe_int (nomark _)) (pw_or1 (pt_cmpR (op_eqD hr.units) (pv 3) (pe_lst pa_nil) (nomark _))))) (pv 7) (pe_ix ix_seq (pv 3) pe_int (fun _ _ => rfl))) pa_nil)))))))) (pss_cons (ps_set (i := 8) sc_law.nd rfl (.inl rfl) (pe_tup (pa_cons (pe_un un_neg (pe_ix ix_seq (pe_ix ix_seq (pv 3) pe_int (fun _ _ => rfl)) pe_int (fun _ _ => rfl))) (pa_cons (pe_ix ix_seq (pe_ix ix_seq (pv 3) pe_int (fun _ _ => rfl)) pe_int (fun _ _ => rfl)) pa_nil)))) (pss_cons (ps_for (passes_of rfl) rfl (pi_list (pe_op op_cat (pv 3) (pe_lst (pa_cons (pv 8) (pa_cons (pe_tup (pa_cons pe_int (pa_cons pe_int pa_nil))) pa_nil))))) (pg_name (i := 9) sc_law.nd rfl (.inl rfl)) (pss_cons (ps_if (PW.pt (pw_or (pt_not (pt_val (pe_callR (ok__law_two_right T) (hr.mono (by decide)) (T.kg 41) (by rfl) (T.g 26) passL (pa_cons (pv 2) (pa_cons (pe_ix ix_seq (pv 3) pe_int (fun _ _ => rfl)) (pa_cons (pv 9) pa_nil)))))) (pw_or1 (pt_not (pt_val (pe_callR (ok__law_two_right T) (hr.mono (by decide)) (T.kg 41) (by rfl) (T.g 26) passL (pa_cons (pv 2) (pa_cons (pv 9) (pa_cons (pe_ix ix_seq (pv 3) (pe_un un_neg pe_int) (fun _ _ => rfl)) pa_nil))))))))) (pss_one (ps_ret pe_bl)) (pss_nil)) (pss_one (ps_if (pt_not (pt_val (pe_callR (ok__law_kinds_right T) (hr.mono (by decide)) (T.kg 42) (by rfl) (T.g 27) passL (pa_cons (pv 2) (pa_cons (pv 9) pa_nil))))) (pss_one (ps_ret pe_bl)) (pss_nil))))) (pss_one (ps_if (pt_not (pt_val (pe_callR (ok__law_lists_right T) (hr.mono (by decide)) (T.kg 43) (by rfl) (T.g 28) passL (pa_cons (pv 2) (pa_cons (pv 3) pa_nil))))) (pss_one (ps_ret pe_bl)) (pss_nil))))))))) (pss_cons (ps_if (pt_cmpR (op_neD hr.units) (pe_lst (pa_cons (pe_callKR (okk_is_number T) (hr.mono (by decide)) (T.kg 20) (by rfl) (T.g 5) passL (pk_cons pe_int pk_nil)) (pa_cons (pe_callKR (okk_is_amount T) (hr.mono (by decide)) (T.kg 21) (by rfl) (T.g 6) passL (pk_cons (pe_un un_neg pe_int) pk_nil)) (pa_cons (pe_callKR (okk_is_share T) (hr.mono (by decide)) (T.kg 22) (by rfl) (T.g 7) passL (pk_cons (pe_ratio2 T (hr.mono (by decide)) (by rfl) (T.g 34) passL (pa_cons pe_int (pa_cons pe_int pa_nil))) pk_nil)) pa_nil)))) (pe_lst (pa_cons pe_bl (pa_cons pe_bl (pa_cons pe_bl pa_nil)))) (nomark _)) (pss_one (ps_ret pe_bl)) (pss_nil)) (pss_cons (ps_if (PW.pt (pw_or (pt_cmpR op_notBl (pe_methKSl (pe_ratio2 T (hr.mono (by decide)) (by rfl) (T.g 34) passL (pa_cons pe_int (pa_cons pe_int pa_nil))) (x_r T).cl (x_r T).below (okk_Ratio_below T) (hr.mono (by decide)) passL (pk_cons pe_int pk_nil)) pe_bl (nomark _)) (pw_or1 (pt_cmpR (op_neR T (hr.mono (by decide)) passL) (pe_methKSl (pe_ratio2 T (hr.mono (by decide)) (by rfl) (T.g 34) passL (pa_cons pe_int (pa_cons pe_int pa_nil))) (x_r T).cl (x_r T).over (okk_Ratio_over T) (hr.mono (by decide)) passL (pk_cons pe_int pk_nil)) (pe_ratio2 T (hr.mono (by decide)) (by rfl) (T.g 34) passL (pa_cons pe_int (pa_cons pe_int pa_nil))) (nomark _))))) (pss_one (ps_ret pe_bl)) (pss_nil)) (pss_cons (ps_if (PW.pt (pw_or (pt_cmpR (op_neR T (hr.mono (by decide)) passL) (pe_callKR (okk_as_ratio T) (hr.mono (by decide)) (T.kg 23) (by rfl) (T.g 8) passL (pk_cons pe_int pk_nil)) pe_int (nomark _)) (pw_or1 (pt_cmpR (op_neG (mon_num _) (eqG_num T) (hr.mono (by decide))) (pe_lst (pa_cons (pe_callKR (okk_total T) (hr.mono (by decide)) (T.kg 25) (by rfl) (T.g 10) passL (pk_cons (pe_lst (pa_cons pe_int (pa_cons pe_int pa_nil))) pk_nil)) (pa_cons (pe_callKR (okk_least T) (hr.mono (by decide)) (T.kg 26) (by rfl) (T.g 11) passL (pk_cons (pe_lst (pa_cons pe_int (pa_cons pe_int pa_nil))) pk_nil)) (pa_cons (pe_callKR (okk_greatest T) (hr.mono (by decide)) (T.kg 27) (by rfl) (T.g 12) passL (pk_cons (pe_tup (pa_cons pe_int (pa_cons pe_int pa_nil))) pk_nil)) pa_nil)))) (pe_lst (pa_cons pe_int (pa_cons pe_int (pa_cons pe_int pa_nil)))) (nomark _))))) (pss_one (ps_ret pe_bl)) (pss_nil)) (pss_one (ps_ret (pe_and (pe_cmpR (op_eqD hr.units) (pe_callR (ok__law_told T) (hr.mono (by decide)) (T.kg 37) (by rfl) (T.g 22) passL (pa_cons (pe_callR (ok_total T) (hr.mono (by decide)) (T.kg 25) (by rfl) (T.g 10) passL (pa_cons (pe_lst pa_nil) pa_nil)) pa_nil)) (pe_tup (pa_cons pe_int (pa_cons pe_int pa_nil))) (nomark _)) (pe_and (pe_cmpR op_eq (pe_prp (x_r T).cl (x_r T).pbot (ok_Ratio_bottom T) (hr.mono (by decide)) (pe_ratio1 T (hr.mono (by decide)) (by rfl) (T.g 34) passL (pa_cons pe_int pa_nil))) pe_int (nomark _)) (pe_one (pe_cmpR (op_eqD hr.units) (pe_callR (ok__law_told T) (hr.mono (by decide)) (T.kg 37) (by rfl) (T.g 22) passL (pa_cons (pe_ratioKTB T (hr.mono (by decide)) (by rfl) (T.g 34) passL (pk_cons pe_int (pk_cons (pe_un un_neg pe_int) pk_nil))) pa_nil)) (pe_tup (pa_cons (pe_un un_neg pe_int) (pa_cons pe_int pa_nil))) (nomark _)))))))))), ?_⟩
    refine ⟨_, rfl, a, _, rfl, .inl ha, _, _, rfl, _, _, rfl, ?_⟩
    generalize hN : (if (if ((ns.map V.int).length : Int) < 10 then ((ns.map V.int).length : Int) else 10) > 2 then (if ((ns.map V.int).length : Int) < 10 then ((ns.map V.int).length : Int) else 10) else 2) = N
    have hN0 : N ≤ 10 := by rw [← hN]; split <;> split <;> omega
    have hN1 : 0 ≤ N := by rw [← hN]; split <;> split <;> omega
    refine ⟨N, rfl, by omega, by omega, ?_⟩
    refine for_it walk_range (fun i σ H1 => Same H H1 ∧ ∃ z1 z2 z3 z4 z5 z6 z7 z8 z9, σ = [some (.ref a), z1, z2, z3, z4, z5, z6, z7, z8, z9]) ⟨fun _ _ e => e, _, _, _, _, _, _, _, _, _, rfl⟩ (fun _ _ _ _ _ => trivial) ?_ ?_
    · rintro i x σ _ H1 hi ⟨s1, z1, z2, z3, z4, z5, z6, z7, z8, z9, rfl⟩ ⟨rfl, rfl⟩
      have ha1 : SqL K H1 a (ns.map V.int) := SqL.ext ha s1
      refine ⟨_, rfl, _, rfl, a, ns, i, by simp, ha1, by omega, fun c => ?_⟩
      refine ⟨c, rfl, fun b H2 s2 nb hb2 => ?_⟩
      refine ⟨sz 0, ?_⟩
      intro l nl; generalize he' : upd _ _ _ = H3; obtain ⟨s3, hl⟩ := new_facts nl he'; clear he'
      have hb3 := hb2.same s3
      have nlb : l ≠ b := fun z => by
        obtain ⟨_, _, _, e, _⟩ := hb2
        rw [← z, nl] at e; cases e
      have nlH : H1 l = none := s2.free nl
      refine ⟨_, rfl, b, _, _, rfl, hb3, by omega, by decide, bdS (by decide), fun r H4 r0 r1 s4 hb4 => ⟨_, _, rfl, rfl, _, rfl, by omega, by omega, ?_⟩⟩
      have hl4 := s4 _ _ hl nlb
      refine for_it walk_range (fun j σ H5 => Same H1 H5 ∧ Bag H5 b (1 + 11 * (j : Int)) ∧ ∃ ts ps, PairsAt H5 l ts ps ∧ ps.length = j ∧ (∀ p ∈ ps, Fine p) ∧ ∃ z4 z5 z6 z7, σ = [some (.ref a), some (.int (0 + (i : Int))), some (.ref b), some (.ref l), z4, z5, z6, z7, z8, z9]) ?_ (fun _ _ _ _ _ => trivial) ?_ ?_
      · exact ⟨same_sb (s2.trans s3) s4 nb, hb4.mono (by omega), [], [], ⟨hl4, rfl, fun i t e => by simp at e⟩, rfl, (fun p hp => by simp at hp), z4, z5, z6, z7, rfl⟩
      · rintro j x σ _ H5 hj ⟨s5, hb5, ts, ps, hP, hpl, hf, y4, y5, y6, y7, rfl⟩ ⟨rfl, rfl⟩
        have hj6 : j < 6 := by omega
        refine ⟨_, rfl, b, _, rfl, hb5, by omega, fun t u d H6 bu bd hd s6 hb6 ht => ?_⟩
        refine ⟨t, _, rfl, SqT.of ht, rfl, _, _, rfl, _, _, rfl, rfl, ?_⟩
        refine ⟨_, rfl, _, rfl, rd_frac hd (bd.mono (by decide)) fun tx H7 s7 htx => ?_⟩
        refine ⟨_, rfl, _, rfl, rd_ratio hd (bd.mono (by decide)) fun c1 H8 s8 hc1 => ?_⟩
        refine rd_told hc1 fun t1 H9 s9 ht1 => ?_
        refine ⟨_, rfl, rd_neP ht1 ((s8.trans s9) _ _ htx) ⟨_, rfl, ?_⟩⟩
        refine ⟨_, rfl, _, rfl, rfl, rd_ratio hd (bd.mono (by decide)) fun c2 H10 s10 hc2 => ?_⟩
        refine rd_told hc2 fun t2 H11 s11 ht2 => ?_
        have S11 := ((s8.trans s9).trans s10).trans s11
        have htx11 := S11 _ _ htx
        refine ⟨_, rfl, rd_neP ht2 htx11 ⟨_, rfl, ?_⟩⟩
        have hb11 := hb6.same (s7.trans S11)
        have hP11 := (hP.sb s6 hb5 nlb).same (s7.trans S11)
        refine ⟨_, rfl, .inl ⟨rfl, _, SqL.of hP11.at_⟩, _, rfl, b, _, _, rfl, hb11, by omega, by decide, bdS (by decide), fun r2 H12 q0 q1 s12 hb12 => ⟨_, _, rfl, rfl, _, rfl, ?_⟩⟩
        have htx12 := sb_pair s12 hb11 htx11
        have hP12 := hP11.sb s12 hb11 nlb
        have S12 : Same H1 H12 := same_sb (same_sb s5 (s6.trans (Same.sb (s7.trans S11))) nb) s12 nb
        have fx := fine_nrm hd bu bd
        -- what is put in is a pair
        have fin : ∀ (tt : Addr) (pp : Pr) (H13 : Hp), Same H12 H13 → H13 tt = some (tupP pp) → Fine pp → rAppend (.ref l) [.ref tt] H13 (fun _ H' => Same H1 H' ∧ Bag H' b (1 + 11 * ((j + 1 : Nat) : Int)) ∧ ∃ ts ps, PairsAt H' l ts ps ∧ ps.length = j + 1 ∧ (∀ p ∈ ps, Fine p) ∧ ∃ z4 z5 z6 z7, [some (V.ref a), some (.int (0 + (i : Int))), some (.ref b), some (.ref l), some (.int (0 + (j : Int))), some (.int u), some (.int d), some (.ref tx), z8, z9] = [some (.ref a), some (.int (0 + (i : Int))), some (.ref b), some (.ref l), z4, z5, z6, z7, z8, z9]) := by
          intro tt pp H13 s13 htt fpp
          have hP13 := hP12.same s13
          refine ⟨l, _, _, rfl, rfl, hP13.at_, ?_, same_upd nlH (S12.trans s13), ?_, ts ++ [tt], ps ++ [pp], ?_, by simp [hpl], ?_, _, _, _, _, rfl⟩
          · have := hP.len
            simp only [List.length_map]
            exact Nat.lt_of_lt_of_le (show ts.length < 100 by omega) (sz 100)
          · exact Bag.off ((hb12.same s13).mono (by push_cast; omega)) SB.upd (Ne.symm nlb)
          · exact hP13.push SB.upd (by rw [upd_same]; simp) htt
          · intro p hp
            rcases List.mem_append.mp hp with hp | hp
            · exact hf p hp
            · simp at hp; rw [hp]; exact fpp
        refine ite2 (fun hc => ?_) (fun hc => ?_)
        · exact ⟨_, rfl, fin tx _ H12 (fun _ _ e => e) htx12 fx⟩
        · refine ⟨_, rfl, sz 0, ?_⟩
          intro le nle; generalize he' : upd _ _ _ = H13; obtain ⟨s13, hle⟩ := new_facts nle he'; clear he'
          have hP13 := hP12.same s13
          refine ⟨.list (ps.map fun p => PyData.tuple [.int p.1, .int p.2]), .list [], .lst (SqL.of hP13.at_) hP13.dp, .lst (SqL.of hle) .nil, ?_, rfl, _, rfl, ?_⟩
          · exact pairs_shaped ps
          · refine ite2 (fun hd' => ?_) (fun hd' => ?_)
            · exact ⟨_, rfl, fin tx _ H13 s13 (s13 _ _ htx12) fx⟩
            · have hp0 : 0 < ps.length := by
                cases ps with
                | nil => exact absurd rfl hd'
                | cons _ _ => simp
              obtain ⟨t0, ht0, hp0', hm0⟩ := hP13.nth hp0
              exact ⟨_, rfl, rd_ixL hP13.at_ (atI_nat ht0) (fin t0 _ H13 s13 hp0' (hf _ hm0))⟩
      · rintro σ H5 ⟨s5, hb5, ts, ps, hP, hpl, hf, y4, y5, y6, y7, rfl⟩
        have hr1 : 0 < ps.length := by omega
        have hr6 : ps.length ≤ 6 := by omega
        obtain ⟨t0, ht0, hp0, hm0⟩ := hP.nth hr1
        have fp0 := hf _ hm0
        -- the opposite
        refine ⟨_, rfl, rd_ixL hP.at_ (atI_nat ht0) (rd_ixT hp0 rfl ⟨_, rfl, _, rfl, rd_ixL hP.at_ (atI_nat ht0) (rd_ixT hp0 rfl ⟨sz 2, ?_⟩)⟩)⟩
        intro to nto; generalize he' : upd _ _ _ = H6; obtain ⟨s6, hto⟩ := new_facts nto he'; clear he'
        -- all of them
        refine ⟨_, rfl, _, rfl, sz 2, ?_⟩
        intro t01 nt01; generalize he' : upd _ _ _ = H7; obtain ⟨s7, ht01⟩ := new_facts nt01 he'; clear he'
        refine ⟨sz 2, ?_⟩
        intro l2 nl2; generalize he' : upd _ _ _ = H8; obtain ⟨s8, hl2⟩ := new_facts nl2 he'; clear he'
        have S8 := (s6.trans s7).trans s8
        have hP8 := hP.same S8
        refine ⟨l, l2, _, _, rfl, rfl, hP8.at_, hl2, ?_, ?_⟩
        · have := hP.len
          simp only [List.length_map, List.length_cons, List.length_nil]
          exact Nat.le_trans (show ts.length + 2 ≤ 100 by omega) (sz 100)
        intro l3 nl3; generalize he' : upd _ _ _ = H9; obtain ⟨s9, hl3⟩ := new_facts nl3 he'; clear he'
        have S9 := S8.trans s9
        have hP9 := hP.same S9
        have hb9 := hb5.same S9
        have n3b : l3 ≠ b := fun z => by
          obtain ⟨_, _, _, e, _⟩ := hb5.same S8
          rw [z, e] at nl3; cases nl3
        have hall : ∀ x ∈ ts.map V.ref ++ [V.ref to, .ref t01], ∃ t p, x = .ref t ∧ H9 t = some (tupP p) ∧ Fine p := by
          intro x hx
          rcases List.mem_append.mp hx with hx | hx
          · obtain ⟨t, ht, rfl⟩ := List.mem_map.mp hx
            obtain ⟨i, hi⟩ := List.getElem?_of_mem ht
            obtain ⟨p, e, hp⟩ := hP9.get i t hi
            exact ⟨t, p, rfl, hp, hf p (List.mem_of_getElem? e)⟩
          · simp only [List.mem_cons, List.not_mem_nil, or_false] at hx
            rcases hx with rfl | rfl
            · exact ⟨to, (-(ps.getD 0 (0, 1)).1, (ps.getD 0 (0, 1)).2), rfl, ((s7.trans s8).trans s9) _ _ hto, fine_neg fp0⟩
            · exact ⟨t01, (0, 1), rfl, (s8.trans s9) _ _ ht01, fine01⟩
        have hlast : ∃ tl pl, atI (ts.map V.ref) (-1) = some (.ref tl) ∧ H9 tl = some (tupP pl) ∧ Fine pl := by
          have hne : ts ≠ [] := fun z => by have := hP.len; rw [z] at this; simp at this; rw [this] at hr1; simp at hr1
          have e := List.dropLast_concat_getLast hne
          obtain ⟨j, hj⟩ := List.getElem?_of_mem (List.getLast_mem hne)
          obtain ⟨p, e1, hp⟩ := hP9.get j _ hj
          refine ⟨ts.getLast hne, p, ?_, hp, hf p (List.mem_of_getElem? e1)⟩
          have := atI_last ((ts.dropLast).map V.ref) (V.ref (ts.getLast hne))
          rw [← List.map_singleton (f := V.ref), ← List.map_append, e] at this
          exact this
        obtain ⟨tl, pl, etl, htl, fpl⟩ := hlast
        have hlen : ts.length ≤ 6 := by have := hP.len; omega
        refine ⟨l3, rfl, ⟨_, SqL.of hl3⟩, for_list (K := K) (a := l3) (xs := ts.map V.ref ++ [V.ref to, .ref t01]) (fun m σ H10 => SB b H9 H10 ∧ Bag H10 b (100 + 6 * (m : Int)) ∧ ∃ z9, σ = [some (.ref a), some (.int (0 + (i : Int))), some (.ref b), some (.ref l), y4, y5, y6, y7, some (.ref to), z9]) ?_ ?_ ?_ ?_⟩
        · exact ⟨SB.refl _ _, hb9.mono (by omega), z9, rfl⟩
        · rintro m σ H10 _ ⟨s10, _⟩
          exact SqL.of (s10 _ _ hl3 n3b)
        · rintro m x σ H10 hx ⟨s10, hb10, w9, rfl⟩
          have hm8 : m < 8 := by
            have := (List.getElem?_eq_some_iff.mp hx).1
            simp at this
            omega
          obtain ⟨ty, py, rfl, hy, fy⟩ := hall x (List.mem_of_getElem? hx)
          have hy10 := sb_pair s10 hb9 hy
          have hP10 := hP9.sb s10 hb9 nlb
          have hp10 := sb_pair s10 hb9 (S9 _ _ hp0)
          have htl10 := sb_pair s10 hb9 htl
          refine ⟨_, rfl, _, rfl, rd_ixL hP10.at_ (atI_nat ht0) ⟨_, rfl, b, _, t0, ty, _, _, rfl, hb10, by omega, hp10, hy10, fp0, fy, fun H11 s11 hb11 => ⟨_, rfl, ?_⟩⟩⟩
          have hP11 := hP10.sb s11 hb10 nlb
          have hy11 := sb_pair s11 hb10 hy10
          have htl11 := sb_pair s11 hb10 htl10
          refine ⟨_, rfl, _, rfl, _, rfl, _, rfl, rd_ixL hP11.at_ etl ⟨b, _, ty, tl, _, _, rfl, hb11, by omega, hy11, htl11, fy, fpl, fun H12 s12 hb12 => ⟨_, rfl, ?_⟩⟩⟩
          have hy12 := sb_pair s12 hb11 hy11
          refine ⟨_, rfl, _, rfl, b, _, ty, _, rfl, hb12, by omega, hy12, fy, fun H13 s13 hb13 => ⟨_, rfl, ?_⟩⟩
          exact ⟨((s10.trans s11).trans s12).trans s13, hb13.mono (by push_cast; omega), _, rfl⟩
        · rintro σ H10 ⟨s10, hb10, w9, rfl⟩
          have hb10 : Bag H10 b 200 := hb10.mono (by simp; omega)
          have hP10 := hP9.sb s10 hb9 nlb
          refine ⟨_, rfl, _, rfl, b, _, l, ts, ps, rfl, hb10, by omega, hP10, nlb, hf, hr1, hr6, fun H11 s11 hb11 => ⟨_, rfl, ?_⟩⟩
          exact ⟨s1.trans (same_sb (s5.trans S9) (s10.trans s11) nb), _, _, _, _, _, _, _, _, _, rfl⟩
    · rintro σ H1 ⟨s1, z1, z2, z3, z4, z5, z6, z7, z8, z9, rfl⟩
      have ti : ∀ (H : Hp) (i : Int), TyY K (ga K "Ratio") (.int i) H (.type "int") := fun H i => .inl (.base (.int i))
      have oi : OkT (ga K "Ratio") (.type "int") := .inr ⟨"int", by decide, rfl⟩
      refine ⟨.int 3, .type "int", true, rfl, ti _ _, oi, by unfold numT; simp, ?_⟩
      refine ⟨_, rfl, .int (-1), rfl, .inr ⟨-1, 1, .int _, fun H2 s2 => ?_⟩⟩
      refine rd_ratio (by decide) (bdS (by decide)) fun c1 H3 s3 hc1 => ?_
      rw [show nrm 1 2 = (1, 2) by decide] at hc1
      refine ⟨.ref c1, rfl, .inr ⟨1, 2, .of hc1, fun H4 s4 => ⟨sz 3, ?_⟩⟩⟩
      intro m1 nm1; generalize he' : upd _ _ _ = H5; obtain ⟨s5, hm1⟩ := new_facts nm1 he'; clear he'
      refine ⟨sz 3, ?_⟩
      intro m2 nm2; generalize he' : upd _ _ _ = H6; obtain ⟨s6, hm2⟩ := new_facts nm2 he'; clear he'
      refine ⟨.list [.bool true, .bool false, .bool true], .list [.bool true, .bool false, .bool true], .lst (SqL.of (s6 _ _ hm1)) (.cons (.bl _) (.cons (.bl _) (.cons (.bl _) .nil))), .lst (SqL.of hm2) (.cons (.bl _) (.cons (.bl _) (.cons (.bl _) .nil))), rfl, rfl, _, rfl, ?_⟩
      clear s1 s2 s3 s4 s5 s6 hc1 hm1 hm2
      -- below, over
      refine rd_ratio (by decide) (bdS (by decide)) fun c1 H7 s7 hc1 => ?_
      rw [show nrm 1 2 = (1, 2) by decide] at hc1
      obtain ⟨d1, hd1⟩ := id hc1
      refine ⟨c1, d1, _, rfl, hd1, c1, .int 1, 1, 2, 1, 1, rfl, hc1, .int 1, bd1 (by decide), bd1 (by decide), bd1 (by decide), bd1 (by decide), fun H8 s8 => ⟨_, _, rfl, rfl, _, rfl, ?_⟩⟩
      refine rd_ratio (by decide) (bdS (by decide)) fun c2 H9 s9 hc2 => ?_
      rw [show nrm 1 2 = (1, 2) by decide] at hc2
      obtain ⟨d2, hd2⟩ := id hc2
      refine ⟨c2, d2, _, rfl, hd2, c2, .int 2, 1, 2, 2, 1, rfl, hc2, .int 2, bd1 (by decide), bd1 (by decide), bd1 (by decide), bd1 (by decide), by decide, by decide, fun z => absurd z (by decide), fun _ c3 H10 s10 hc3 => ?_⟩
      rw [show nrm (1 * 1) (2 * 2) = (1, 4) by decide] at hc3
      refine rd_ratio (by decide) (bdS (by decide)) fun c4 H11 s11 hc4 => ?_
      rw [show nrm 1 4 = (1, 4) by decide] at hc4
      refine ⟨c3, _, _, rfl, hc3.same s11, .inr ⟨_, _, .of hc4, fun H12 s12 => ⟨_, rfl, ?_⟩⟩⟩
      clear s7 s8 s9 s10 s11 s12 hc1 hc2 hc3 hc4 hd1 hd2
      -- as_ratio, total, least, greatest
      refine ⟨.int 7, rfl, .inr ⟨7, 1, .int 7, by decide, bdS (by decide), fun c5 H13 s13 hc5 => ?_⟩⟩
      rw [low_nrm1] at hc5
      refine ⟨c5, _, _, rfl, hc5, .inr ⟨_, _, .int 7, fun H14 s14 => ⟨_, rfl, ?_⟩⟩⟩
      refine ⟨sz 2, ?_⟩
      intro l1 nl1; generalize he' : upd _ _ _ = G1; obtain ⟨g1, hl1⟩ := new_facts nl1 he'; clear he'
      refine ⟨.ref l1, rfl, .inr ⟨l1, _, _, _, rfl, nums_ints [1, 2] hl1 (.inl rfl), by decide, fine_ints (by decide), fun c6 G2 g2 hc6 => ?_⟩⟩
      have e1 : totI ([1, 2].map fun i => ((i, 1) : Pr)) ([1, 2].map fun i => ((i, 1) : Pr)).length = (3, 1) := by decide
      rw [e1] at hc6
      refine ⟨sz 2, ?_⟩
      intro l2 nl2; generalize he' : upd _ _ _ = G3; obtain ⟨g3, hl2⟩ := new_facts nl2 he'; clear he'
      refine ⟨.ref l2, rfl, .inr ⟨l2, _, _, _, rfl, nums_ints [2, 1] hl2 (.inl rfl), by decide, by decide, fine_ints (by decide), fun G4 g4 => ?_⟩⟩
      refine ⟨sz 2, ?_⟩
      intro l3 nl3; generalize he' : upd _ _ _ = G5; obtain ⟨g5, hl3⟩ := new_facts nl3 he'; clear he'
      refine ⟨.ref l3, rfl, .inr ⟨l3, _, _, _, rfl, nums_ints [1, 2] hl3 (.inr rfl), by decide, by decide, fine_ints (by decide), fun G6 g6 => ⟨sz 3, ?_⟩⟩⟩
      intro l4 nl4; generalize he' : upd _ _ _ = G7; obtain ⟨g7, hl4⟩ := new_facts nl4 he'; clear he'
      refine ⟨sz 3, ?_⟩
      intro l5 nl5; generalize he' : upd _ _ _ = G8; obtain ⟨g8, hl5⟩ := new_facts nl5 he'; clear he'
      refine ⟨⟨l4, l5, _, _, rfl, rfl, g8 _ _ hl4, hl5, .cons (.inl ⟨c6, 3, 1, rfl, hc6.same (((((g3.trans g4).trans g5).trans g6).trans g7).trans g8), .int 3⟩) (.cons (.inr ⟨rfl, rfl, by decide⟩) (.cons (.inr ⟨rfl, rfl, by decide⟩) .nil))⟩, fun G9 g9 => ⟨_, rfl, ?_⟩⟩
      clear s13 s14 hc5 g1 g2 g3 g4 g5 g6 g7 g8 g9 hl1 hl2 hl3 hl4 hl5 hc6
      -- the rest
      refine ⟨sz 0, ?_⟩
      intro l6 nl6; generalize he' : upd _ _ _ = F1; obtain ⟨f1, hl6⟩ := new_facts nl6 he'; clear he'
      refine ⟨.ref l6, rfl, .inr ⟨l6, _, _, _, rfl, nums_ints [] hl6 (.inl rfl), by decide, fine_ints (by simp), fun c7 F2 f2 hc7 => ?_⟩⟩
      refine rd_told hc7 fun t7 F3 f3 ht7 => ⟨sz 2, ?_⟩
      intro t8 nt8; generalize he' : upd _ _ _ = F4; obtain ⟨f4, ht8⟩ := new_facts nt8 he'; clear he'
      refine rd_eqP (p := (0, 1)) (f4 _ _ ht7) ht8 ⟨_, rfl, ?_⟩
      refine rd_ratio1 fun c8 F5 f5 hc8 => ?_
      obtain ⟨d8, hd8⟩ := id hc8
      refine ⟨c8, d8, _, rfl, hd8, c8, _, _, rfl, hc8, rfl, _, rfl, ?_⟩
      refine ⟨_, rfl, rfl, rd_ratio (by decide) (bdS (by decide)) fun c9 F6 f6 hc9 => ?_⟩
      rw [show nrm 6 (-4) = (-3, 2) by decide] at hc9
      refine rd_told hc9 fun t9 F7 f7 ht9 => ⟨_, rfl, sz 2, ?_⟩
      intro t10 nt10; generalize he' : upd _ _ _ = F8; obtain ⟨f8, ht10⟩ := new_facts nt10 he'; clear he'
      exact rd_eqP (p := (-3, 2)) (f8 _ _ ht9) ht10 (k _)
theorem ok_law (T : TX K mg) : FnR P w K mg base (L2.CX P w) 12 (ga K "law") (spLaw K) := (okd_law T).r (fun _ _ _ _ _ _ us hl => match us, hl with | [_], _ => rfl)
end
end Lw
set_option Elab.async false
set_option linter.all false
set_option maxRecDepth 100000
set_option maxHeartbeats 4000000
/-! The end. -/
namespace Lw
open PySem PySem.Spec PyProof.Rows L2 He Wl
theorem facts {P : Program} {w : World} {K : PySem.W.Frag} {h : Heap} {mg : Str → Option Value} {f : Addr} (X : K.In h) (G : h.Ns mainGlobals mg) (hfa : mg ("law" : Str) = some (.ref f)) (c : SaysY fa fn exB K) :
    ∃ fd : FuncData, (∀ (s : Shared) (v : Value), BindsTo s fd ⟨[v], []⟩ [("_law_script", v)]) ∧ ∀ base : Heap, K.In base → base.Ns mainGlobals mg → FnOk P w K mg base (L2.CX P w) 12 f fd ["_law_script"] (spLaw K) := by
  have T : TX K mg := ty_mk X G c
  have e := hfa.symm.trans (T.g 29)
  cases e
  obtain ⟨fd, F⟩ := T.d 44
  have b := FunD.bindsA (ps := ["_law_script"]) F fun _ _ _ _ _ _ us hl => match us, hl with | [_], _ => rfl
  refine ⟨fd, fun s v => b s [v] rfl, fun base _ _ => ?_⟩
  obtain ⟨fd', F', G'⟩ := (okd_law (P := P) (w := w) (base := base) T).ex
  have ef : fd' = fd := by
    obtain ⟨o1, d1, a1, a2, a3, a4, a5, a6, a7, a8, e1, l1, _⟩ := F.ex
    obtain ⟨o2, d2, b1, b2, b3, b4, b5, b6, b7, b8, e2, l2, _⟩ := F'.ex
    have l1' : K.lookup (ga K "law") = some ⟨o1, d1, .func fd, a8⟩ := l1
    rw [l1'] at l2
    have z := congrArg Obj.data (Option.some.inj l2)
    exact (Data.func.inj z).symm
  rw [← ef]; exact G'
end Lw
open PySem PySem.W PySem.Calls PyProof.Rows
theorem PySem.Challenge.cw_winoften_k02_ratios_reckoned_holds : PySem.Challenge.rw_winoften_k02_ratios_reckoned.Holds := by
  w_on; o_law
  refine HandSHeadRun.head_any (r := OpenLaw.row PySem.Challenge.rw_winoften_k02_ratios_reckoned) (q := view (OpenLaw.row PySem.Challenge.rw_winoften_k02_ratios_reckoned).prog [39]) (H := Lw.hk) (ob := Lw.ob) (M := 4000) (loose := Lw.names) (d := HandSHeadRun.topDef (OpenLaw.row PySem.Challenge.rw_winoften_k02_ratios_reckoned).prog 39) (kwd := []) Lw.ob_eq
    (by kernel_rfl) (fun s => by kernel_rfl) Lw.run (by kernel_rfl) (by kernel_rfl) (by kernel_rfl) (by rfl) (by first | assumption | decide +kernel) (by decide +kernel) ⟨rfl, rfl, rfl, rfl, rfl, by decide +kernel⟩ ?hw ?hc
  case hw => w_witness2
  case hc =>
    refine Wl.walk_ofW (l := PySem.Challenge.rw_winoften_k02_ratios_reckoned) (n := 63) (k := 12) (x := "_law_script") (CX := fun w => L2.CX (PySem.Challenge.rw_winoften_k02_ratios_reckoned).prog w) rfl (by decide) (by kernel_rfl) ⟨rfl, by decide, by decide⟩ ?F (fun _ _ _ _ _ z => Wl.cx_never z)
    intro w mg fa h Y G hmg0
    obtain ⟨K, KX, c⟩ := Y
    have hmg : mg ("law" : PySem.Str) = some (.ref fa) := by
      have e : (HandSHeadRun.topDef (OpenLaw.row PySem.Challenge.rw_winoften_k02_ratios_reckoned).prog 39).name = ("law" : PySem.Str) := by kernel_rfl
      rw [← e]
      exact hmg0
    obtain ⟨fd, hb, hF⟩ := Lw.facts (P := (PySem.Challenge.rw_winoften_k02_ratios_reckoned).prog) (w := w) KX G hmg c
    exact ⟨K, fd, Lw.spLaw K, KX, hb, fun H a ns hl _ hS => ⟨a, ns, rfl, hS, fun _ => rfl⟩, hF⟩
