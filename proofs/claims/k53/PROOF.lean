import PyProof.Rows.All
import Wide.All
import OpenK.AllK
import Wide.FinOn
import KE.KOpsOwn
import HandS.ForMost
import HandS.ForExc
import HandS.More
import HandS.Flow
import HandS.Style
import HandS.Defaults
import HandS.MakeKw
import HandS.Slots
import HandS.SlotsOwn
import HandS.IsInst
import HandS.ExcInit
import HandS.TryMany
import HandS.Wide
import HandS.OwnEq
import HandS.RaiseMore
import KE.KStateDown
import Lean
import HandS.Head0
import HandS.Head1
import HandS.Head2
import HandS.HeadEnd
import HandS.HeadHook1
import HandS.HeadHook2
import HandS.ClsMeth
import HandS.ExcField
import KE.GoesEnum
import HandS.Walk
import HandS.MakeKwOnly
import KE.DataEq
import KE.KeyNested
import HandS.Property
import HandS.Zip
import HandS.TupAny
import HandS.Star
import HandS.FStr
import HandS.Comp
import KE.KTryMore
import KE.KExcIs
import HandS.ExcIs
import HandS.GenCall
import PySem.Challenge.RW_winoften_k53_payments_refused
import KE.GoesNew
import KE.GoesMore
import HandS.Iter
import HandS.SortInts
import HandS.Dict
import HandS.TupLen
import KE.GoesNewDict
import KE.GoesDict
import HandS.DictTup
import HandS.DictComp
import KE.KDictPairs
import KE.KDictCopyH
import KE.KDictList
import KE.KDictDisplayH
import HandS.TupMul
import KE.KDictZip
import HandS.NoneIn
import KE.KEqNest
import HandS.GenList
import PyProof.NeKinds
import KE.KDictSum
import HandS.SetFor
import HandS.Set
import HandS.TupLe
import KE.DataFind
import HandS.List
import HandS.Conv
import HandS.TupSets
import HandS.Call
import HandS.DictEq
import HandS.Text
set_option Elab.async false
set_option linter.all false
set_option maxRecDepth 100000
set_option maxHeartbeats 4000000
namespace Wl
open PySem PySem.Spec PyProof.Rows L2

theorem same_new {H : Hp} {p : Addr} {o : HO} (n : H p = none) : Same H (upd H p o) := fun b u e => by
  rw [upd_ne (ne_of_none e n)]; exact e
theorem grow {H : Hp} {o : HO} {R : Addr → Hp → Prop} (h : ∀ p H', Same H H' → H p = none → H' p = some o → R p H') : ∀ p, H p = none → R p (upd H p o) :=
  fun p n => h p _ (same_new n) n upd_same
theorem new_facts {H H1 : Hp} {p : Addr} {o : HO} (n : H p = none) (he : upd H p o = H1) : Same H H1 ∧ H1 p = some o := by
  subst he
  exact ⟨same_new n, upd_same⟩
def SB (l : Addr) (H H' : Hp) : Prop := ∀ b o, H b = some o → b ≠ l → H' b = some o
theorem Same.sb {l : Addr} {H H' : Hp} (h : Same H H') : SB l H H' := fun b o e _ => h b o e
theorem SB.refl (l : Addr) (H : Hp) : SB l H H := fun _ _ e _ => e
theorem SB.trans {l : Addr} {H H1 H2 : Hp} (a : SB l H H1) (b : SB l H1 H2) : SB l H H2 := fun c o e n => b c o (a c o e n) n
theorem SB.upd {l : Addr} {H : Hp} {o : HO} : SB l H (upd H l o) := fun b u e n => by rw [upd_ne n]; exact e
theorem SB.same {l : Addr} {H H' : Hp} (h : SB l H H') (n : H l = none) : Same H H' := fun b o e => h b o e (ne_of_none e n)

theorem sz (n : Nat) (h : n ≤ 1000 := by decide) : n ≤ sizeLine := Nat.le_trans h (by decide)
def tCallR (sp : Sp) (E : XK) (t : TA) : TE := fun σ H Q => t σ H fun vs H1 => sp vs H1 Q E
section
variable {X : Cx} {CX : CXT} {k : Nat} {f : Addr} {sp : Sp} {E : XK} {x : Str} {p pos : Pos} {e : Expr} {es : List Expr} {t : TA}
theorem pe_callR (F : FnR X.prog X.w X.K X.mg X.base CX k f sp) (hr : Room k X.A) (hk : PySem.W.keepIn X.K (.ref f) = true) (hg : Gl X x) (hm : X.mg x = some (.ref f)) (hx : Passes CX X E) (ha : PA X (e :: es) t)
    (hdb : (x == ("__debug__" : Str)) = false := by decide) (he : starEach (e :: es) X.env = (false, eval e X.env) :: starEach es X.env := by rfl) (hpl : (backTo pos (starEach es X.env)).any (·.1) = false := by rfl) :
    PE X (.Call (.Name x p) (e :: es) [] pos) (tCallR sp E t) := by
  refine ⟨fun pins s σ H Q I h => ?_⟩
  refine wpAny_Call_Name_kw (ld_glob I hg hm ?_ hdb)
  refine PySem.W.callWith_K (h₀ := X.base) I.ok.mod.kin hk (thn (ha.run pos pins s σ H _ I h) fun us s1 ⟨vs, H1, I1, r, q⟩ => ⟨I1.kIn, ?_⟩) he hpl
  exact wpAny_call (run_fnR F hr hx I1 r q)
end

def CDivNW (_ j : Int) : Prop := j ≠ 0 ∧ j.natAbs.log2 < 9000
theorem op_fdivNW {X : Cx} : OpR X (binaryOp .FloorDiv) (rI CDivNW fun i j => .int (i.fdiv j)) := opI fun _ _ _ _ _ _ _ hc q => floordiv_int hc.1 q (.inl (PyProof.noPylong_of_log2 hc.2))

structure OwnOp (K : PySem.W.Frag) (C : Addr) (nm : String) (f : Addr) : Prop where
  sf : PySem.W.selfFirst K C = true
  hs : PySem.W.findIn K (.ref C) (PySem.dunder nm) = some (some (.ref f))
  hf : PySem.W.isFn K (.ref f) = true
  hr : PySem.W.findIn K (.ref C) (dunderR nm) = some none
  h1 : ∃ fo, PySem.W.findIn K (.type "int") (PySem.dunder nm) = some fo
  h2 : ∃ ro, PySem.W.findIn K (.type "int") (dunderR nm) = some ro
  hsub : PySem.W.subIn K (.type "int") (.ref C) = some false
def NumLike (C : Addr) (y : V) (H : Hp) : Prop := (∃ i, y = .int i) ∨ ∃ b dy ws, y = .ref b ∧ SlX.Slt H b C dy ws
def rBinSl (C : Addr) (sp : Sp) (E : XK) : R2 := fun x y H Q => ∃ a dx vs, x = .ref a ∧ SlX.Slt H a C dx vs ∧ NumLike C y H ∧ sp [x, y] H Q E
section
variable {X : Cx} {CX : CXT} {C f : Addr} {n : Nat} {sp : Sp} {E : XK}
theorem op_binSl {op : Operator} {nm : String} (hi : op.info.2 = nm) (O : OwnOp X.K C nm f) (F : FnR X.prog X.w X.K X.mg X.base CX n f sp) (hr : Room n X.A) (hx : Passes CX X E) : OpR X (binaryOp op) (rBinSl C sp E) := by
  intro pins s σ H x y v u Q I rx ry h
  obtain ⟨a, dx, vs, rfl, ha, hy, q⟩ := h
  subst hi
  cases (show v = Value.ref a from rx)
  obtain ⟨sl, od, _, J, _⟩ := SlX.slt_inst I ha
  obtain ⟨m, hF⟩ := I.fr
  have back : wpAny (model X.prog X.w) X.A (call (.ref f) [.ref a, u]) (PySem.W.CmpBack (EP X pins σ Q)) X.xe s := by
    refine wpAny_mono (wpAny_call (run_fnR (us := [.ref a, u]) (vs := [.ref a, y]) F hr hx I (.cons rfl (.cons ry .nil)) q)) (fun w s' z => ?_) fun _ _ x => x
    obtain ⟨z', H', I', rz, qz⟩ := z
    exact SlX.cmpback rz ⟨z', H', I', rz, qz⟩
  rcases hy with ⟨i, rfl⟩ | ⟨b, dy, ws, rfl, hb⟩
  · obtain ⟨t, rfl⟩ := (show ∃ t, u = Value.int i t from ry)
    obtain ⟨fo, h1⟩ := O.h1
    obtain ⟨ro, h2⟩ := O.h2
    exact PySem.W.ksp_binT (T := "int") hF I.ok.mod.kin J rfl O.sf O.hs O.hf O.hr (.inl rfl) h1 h2 O.hsub back
  · cases (show u = Value.ref b from ry)
    obtain ⟨sl', od', _, J', _⟩ := SlX.slt_inst I hb
    exact PySem.W.binop_K hF I.ok.mod.kin J J'.type O.sf O.hs O.hf back
def TyY (K : PySem.W.Frag) (C : Addr) (y : V) (H : Hp) (t : Value) : Prop := TyX K H y t ∨ (t = .ref C ∧ ∃ b dy ws, y = .ref b ∧ SlX.Slt H b C dy ws)
theorem tyY_looks {pins : List (Addr × Obj)} {σ : L2.St} {H : Hp} {s : Shared} {y : V} {u t : Value} (I : Inv X pins σ H s) (ry : RelV y u) (h : TyY X.K C y H t) : PySem.W.Looks (model X.prog X.w) s.heap (typeOf u) t := by
  rcases h with h | ⟨rfl, b, dy, ws, rfl, hb⟩
  · obtain ⟨P, Z, p, _⟩ := kit_of I ry h
    exact Z.ty _ _ I.kIn p
  · cases (show u = Value.ref b from ry)
    obtain ⟨sl', od', _, J', _⟩ := SlX.slt_inst I hb
    exact J'.type
end

section
open PySem.W Builtin
variable {prog : Program} {w : World} {A : Around} {E : Value → Shared → Prop} {s : Shared} {K : PySem.W.Frag} {x C L f : Addr} {h0 : Heap} {m : Str → Option Value} {ox : Obj} {od : Option Obj} {b tb : Value}
theorem ne_K {Q : Value → Shared → Prop} (hu : A.units + 1 < cLine) (F : Fr h0 L s.heap m) (X0 : K.In h0) (I : InstAt s.heap x ox C od) (hb : Looks (model prog w) s.heap (typeOf b) tb) (hn : notFirst K C tb = true)
    (hne : findIn K (.ref C) "__ne__" = some (some (.builtin "object.__ne__"))) (hm : mroIn K C (.type "object") = some true) (hs : findIn K (.ref C) "__eq__" = some (some (.ref f))) (hf : isFn K (.ref f) = true)
    (h : wpAny (model prog w) A.in1 (call (.ref f) [.ref x, b]) (fun v s' => ∃ r, v = .bool r ∧ Q (.bool (!r)) s') E s) : wpAny (model prog w) A (richCompare .NotEq (.ref x) b) Q E s := by
  have X := X0.keeps F.keep
  have sub : Looks (model prog w) s.heap (isInstance (.ref x) (.type "object")) true := I.type.andThen (looks_mroIn X hm)
  have inner : wpAny (model prog w) A (call (.builtin "object.__ne__") [.ref x, b]) (fun v s' => ∃ r, v = .bool r ∧ Q (.bool r) s') E s := by
    refine wpAny_call (codeAny_call_builtin (by decide +kernel) PySem.F.cmpEntry_ne (@check_slot (model prog w) _ _ s "object.__ne__" "object" "__ne__" (.ref x) [b] [] _ PySem.F.cmpKind_ne PySem.F.cmpSplit_ne sub (PySem.F.cmpArgs_ne _ _) ?_))
    unfold Builtin.«object.__ne__»
    have hu1 : A.in1.units < cLine := hu
    repeat (first
      | with_reducible refine wpAny_cRoomFor hu1 ?_
      | (refine wpAny_bind (m := callSpecialIfBound? (.ref x) (Str.ofString "__eq__") [b])
          (ifBound_K X I hs hf (wpAny_mono h (fun r s' hr => by
            obtain ⟨c, rfl, hq⟩ := hr
            repeat (first | exact ⟨_, rfl, hq⟩ | exact wpAny_pure ⟨_, rfl, hq⟩ | exact wpAny_truthy_bool ⟨_, rfl, hq⟩ | (refine wpAny_bind (m := truthy (.bool _)) (wpAny_truthy_bool ?_)) | wp_step)) fun _ _ e => e)))
      | wp_step)
  have one : wpAny (model prog w) A (tryCompare (.ref x) "__ne__" b) (fun r s' => ∃ v, r = some v ∧ Q v s') E s := by
    unfold tryCompare
    refine wpAny_bind ?_
    simp only [callSpecialIfBound?, bindSpecialIfBound?]
    refine wpAny_holding (wpAny_bind (wpAny_bind (wpAny_bind (I.type.here ((looks_findIn X hne).here ?_)))))
    have bnd : ∀ self : Value, Looks (model prog w) s.heap (bindSpecial (.builtin "object.__ne__") self) (.builtin "object.__ne__", [self]) := fun self => Looks.of_pure (by kernel_rfl)
    have fin : wpAny (model prog w) A (call (.builtin "object.__ne__") ([.ref x] ++ [b]) >>= fun v => pure (some v)) (fun r s' => wpAny (model prog w) A (match r with | some .notImplemented => pure none | none => pure none | some v => pure (some v)) (fun r s' => ∃ v, r = some v ∧ Q v s') E s') E s := by
      refine wpAny_bind (wpAny_mono inner (fun v s' hv => ?_) fun _ _ h' => h')
      obtain ⟨r, rfl, hq⟩ := hv
      exact wpAny_pure (wpAny_pure ⟨_, rfl, hq⟩)
    refine wpAny_bind (wpAny_askSetting (wpAny_ite ?_))
    split
    · exact wpAny_bind ((bnd _).here (wpAny_pure fin))
    · exact wpAny_tryCatch (wpAny_bind ((bnd _).here (wpAny_pure fin)))
  unfold richCompare
  simp only [oneThing_ref]
  refine wpAny_holding (wpAny_bind (wpAny_cRoomFor (Nat.lt_of_succ_lt hu) ?_))
  refine wpAny_bind (I.type.here (wpAny_bind (hb.here ?_)))
  split
  · rename_i q
    have e : subIn K tb (.ref C) = some false := by
      rcases Bool.or_eq_true_iff.mp hn with e | e
      · rw [beq_iff_eq.mp e] at q; simp at q
      · exact beq_iff_eq.mp e
    refine wpAny_bind ((looks_subIn X e).here ?_)
    simp only [Bool.false_eq_true, if_false]
    refine wpAny_bind (wpAny_mono one (fun r s' z => ?_) fun _ _ e => e)
    obtain ⟨v, rfl, hq⟩ := z
    exact wpAny_pure hq
  · refine wpAny_bind (wpAny_pure ?_)
    simp only [Bool.false_eq_true, if_false]
    refine wpAny_bind (wpAny_mono one (fun r s' z => ?_) fun _ _ e => e)
    obtain ⟨v, rfl, hq⟩ := z
    exact wpAny_pure hq
end
section
variable {X : Cx} {CX : CXT} {C f : Addr} {n : Nat} {sp : Sp} {E : XK}
end
end Wl
set_option Elab.async false
set_option linter.all false
set_option maxRecDepth 100000
namespace Wl
def Bd (n : Nat) (x : Int) : Prop := x.natAbs < 2 ^ n
theorem Bd.mono {m n : Nat} {x : Int} (h : Bd m x) (l : m ≤ n) : Bd n x := Nat.lt_of_lt_of_le h (Nat.pow_le_pow_right (by decide) l)
theorem Bd.mul {m n : Nat} {x y : Int} (a : Bd m x) (b : Bd n y) : Bd (m + n) (x * y) := L2.wide_lt a b
theorem Bd.add {n : Nat} {x y : Int} (a : Bd n x) (b : Bd n y) : Bd (n + 1) (x + y) := by
  unfold Bd at *
  have h := Int.natAbs_add_le x y
  rw [Nat.pow_succ]; omega
theorem Bd.neg {n : Nat} {x : Int} (a : Bd n x) : Bd n (-x) := by unfold Bd at *; rw [Int.natAbs_neg]; exact a
theorem Bd.sub {n : Nat} {x y : Int} (a : Bd n x) (b : Bd n y) : Bd (n + 1) (x - y) := by rw [Int.sub_eq_add_neg]; exact a.add b.neg
theorem Bd.le {n : Nat} {x y : Int} (a : Bd n y) (h : x.natAbs ≤ y.natAbs) : Bd n x := Nat.lt_of_le_of_lt h a
theorem Bd.one {n : Nat} (h : 0 < n) : Bd n 1 := by
  unfold Bd
  exact Nat.one_lt_two_pow (by omega)
theorem fmod_natAbs_lt (a : Int) {b : Int} (h : b ≠ 0) : (a.fmod b).natAbs < b.natAbs := by
  rcases Int.lt_trichotomy b 0 with hb | hb | hb
  · have h0 : a.fmod b = -((-a).fmod (-b)) := by rw [Int.neg_fmod_neg, Int.neg_neg]
    have h1 := Int.fmod_nonneg_of_pos (-a) (show 0 < -b by omega)
    have h2 := Int.fmod_lt_of_pos (-a) (show 0 < -b by omega)
    omega
  · exact absurd hb h
  · have h1 := Int.fmod_nonneg_of_pos a hb
    have h2 := Int.fmod_lt_of_pos a hb
    omega
theorem gcd_fmod (a b : Int) : Int.gcd b (a.fmod b) = Int.gcd a b := by
  have h : a.fmod b = a + b * (-(a.fdiv b)) := by
    have := Int.fmod_add_mul_fdiv a b
    rw [Int.mul_neg]; omega
  rw [h, Int.gcd_add_mul_left_right, Int.gcd_comm]
def gsg (p q : Int) : Int := if 0 < q then (Int.gcd p q : Int) else -(Int.gcd p q : Int)
def nrm (p q : Int) : Int × Int := (p.fdiv (gsg p q), q.fdiv (gsg p q))
def Low (p q : Int) : Prop := 0 < q ∧ Int.gcd p q = 1
theorem gsg_natAbs (p q : Int) : (gsg p q).natAbs = Int.gcd p q := by
  unfold gsg; split <;> omega
theorem gcd_pos {p q : Int} (h : q ≠ 0) : 0 < Int.gcd p q := Int.gcd_pos_of_ne_zero_right p h
theorem gsg_ne {p q : Int} (h : q ≠ 0) : gsg p q ≠ 0 := by
  have h1 := gsg_natAbs p q
  have h2 := gcd_pos (p := p) h
  omega
theorem gsg_le {p q : Int} (h : q ≠ 0) : (gsg p q).natAbs ≤ q.natAbs := by
  rw [gsg_natAbs]
  exact Nat.le_of_dvd (by omega) (Int.gcd_dvd_natAbs_right p q)
theorem gsg_dvd_left (p q : Int) : gsg p q ∣ p := by
  unfold gsg; split
  · exact Int.gcd_dvd_left _ _
  · exact Int.neg_dvd.mpr (Int.gcd_dvd_left _ _)
theorem gsg_dvd_right (p q : Int) : gsg p q ∣ q := by
  unfold gsg; split
  · exact Int.gcd_dvd_right _ _
  · exact Int.neg_dvd.mpr (Int.gcd_dvd_right _ _)
theorem nrm_top (p q : Int) : (nrm p q).1 * gsg p q = p := by
  show p.fdiv (gsg p q) * gsg p q = p
  rw [Int.fdiv_eq_ediv_of_dvd (gsg_dvd_left p q), Int.ediv_mul_cancel (gsg_dvd_left p q)]
theorem nrm_bot (p q : Int) : (nrm p q).2 * gsg p q = q := by
  show q.fdiv (gsg p q) * gsg p q = q
  rw [Int.fdiv_eq_ediv_of_dvd (gsg_dvd_right p q), Int.ediv_mul_cancel (gsg_dvd_right p q)]
theorem nrm_pos {p q : Int} (h : q ≠ 0) : 0 < (nrm p q).2 := by
  have e := nrm_bot p q
  have g := gcd_pos (p := p) h
  rcases Int.lt_trichotomy (nrm p q).2 0 with hb | hb | hb
  · exfalso
    by_cases hq : 0 < q
    · have hg : 0 < gsg p q := by unfold gsg; rw [if_pos hq]; omega
      have := Int.mul_neg_of_neg_of_pos hb hg
      omega
    · have hg : gsg p q < 0 := by unfold gsg; rw [if_neg hq]; omega
      have := Int.mul_pos_of_neg_of_neg hb hg
      omega
  · rw [hb, Int.zero_mul] at e; exact absurd e.symm h
  · exact hb
theorem nrm_gcd {p q : Int} (h : q ≠ 0) : Int.gcd (nrm p q).1 (nrm p q).2 = 1 := by
  show Int.gcd (p.fdiv (gsg p q)) (q.fdiv (gsg p q)) = 1
  rw [Int.fdiv_eq_ediv_of_dvd (gsg_dvd_left p q), Int.fdiv_eq_ediv_of_dvd (gsg_dvd_right p q), Int.gcd_ediv (gsg_dvd_left p q) (gsg_dvd_right p q), gsg_natAbs]
  exact Nat.div_self (gcd_pos h)
theorem Low.ne {p q : Int} (h : Low p q) : q ≠ 0 := by have := h.1; omega
end Wl
set_option Elab.async false
set_option linter.all false
set_option maxRecDepth 100000
set_option maxHeartbeats 4000000
namespace Wl
open PySem PySem.Spec PyProof.Rows L2 He
inductive Pl where
  | glo (x : Str)
  | met (C m : Str)
  | prp (C m : Str)
  | cme (C m : Str)
def recFn (K : PySem.W.Frag) (p : Addr) (T : String) : Addr := match PySem.W.recIn K p T with
  | some (.ref g :: _) => g
  | _ => 0
def Pl.ad (K : PySem.W.Frag) : Pl → Addr
  | .glo x => ga K x
  | .met C m => ma K (ga K C) m
  | .prp C m => recFn K (ma K (ga K C) m) "property"
  | .cme C m => recFn K (ma K (ga K C) m) "classmethod"
structure DefY where
  at_ : Pl
  name : Str
  qual : Str
  params : Arguments
  body : List Stmt
  scope : Scope
  dfl : List Dv := []
def fnY (K : PySem.W.Frag) (a : Addr) : FnW := match K.lookup a with
  | some ⟨_, _, .func fd, _⟩ => some (fd.name, fd.qualname, fd.params, fd.body, fd.scope, fd.globals, fd.closure, fd.builtins)
  | _ => none
def DefY.val (d : DefY) : FnW := some (d.name, d.qual, d.params, .stmts d.body, d.scope, mainGlobals, [], builtinsNs)
def DefY.dvs (K : PySem.W.Frag) (d : DefY) : List V := d.dfl.map (Dv.v K)
def DefY.ok (K : PySem.W.Frag) (d : DefY) : Bool := PySem.W.keepIn K (.ref (d.at_.ad K)) && (match K.lookup (d.at_.ad K) with
  | some ⟨_, _, .func fd, _⟩ => PySem.W.codeIn K fd.code d.qual && dflB K fd.defaults (d.dvs K)
  | _ => false)
theorem DefY.funD {K : PySem.W.Frag} {d : DefY} (e : fnY K (d.at_.ad K) = d.val) (c : d.ok K = true) : ∃ fd, FunD K d.name d.qual d.params d.body d.scope (d.dvs K) [] (d.at_.ad K) fd := by
  obtain ⟨kp, c2⟩ := ba c
  unfold fnY at e
  cases q : K.lookup (d.at_.ad K) with
  | none =>
    rw [q] at c2
    cases c2
  | some o =>
    obtain ⟨oc, od, dt, osl⟩ := o
    rw [q] at c2 e
    cases dt with
    | func fd =>
      obtain ⟨n1, n2, n3, n4, n5, n6, n7, n8, n9, n10, n11, n12, n13, n14, n15⟩ := fd
      have e2 : (some (n1, n2, n3, n4, n5, n6, n7, n15) : FnW) = some (d.name, d.qual, d.params, .stmts d.body, d.scope, mainGlobals, [], builtinsNs) := e
      simp only [Option.some.injEq, Prod.mk.injEq] at e2
      obtain ⟨h1, h2, h3, h4, h5, h6, h7, h8⟩ := e2
      subst h1 h2 h3 h4 h5 h6 h7 h8
      have c3 : (PySem.W.codeIn K n13 d.qual && dflB K n8 (d.dvs K)) = true := c2
      obtain ⟨k1, k3⟩ := ba c3
      exact ⟨_, ⟨oc, od, n8, n9, n10, n11, n12, n13, n14, osl, rfl, q, k1, dflB_ok k3, .inl rfl⟩, kp⟩
    | _ => cases c2
def obsY (fa : List Fa) (fn : List DefY) (ex : PySem.W.Frag → Bool) (K : PySem.W.Frag) : AlD := ((fa.all fun f => f.ok K) && ((fn.all fun d => d.ok K) && ex K), fn.map fun d => fnY K (d.at_.ad K))
def valY (fn : List DefY) : AlD := (true, fn.map DefY.val)
def SaysY (fa : List Fa) (fn : List DefY) (ex : PySem.W.Frag → Bool) (K : PySem.W.Frag) : Prop := obsY fa fn ex K = valY fn
section
variable {fa : List Fa} {fn : List DefY} {ex : PySem.W.Frag → Bool} {K : PySem.W.Frag}
theorem SaysY.three (c : SaysY fa fn ex K) : (fa.all fun f => f.ok K) = true ∧ (fn.all fun d => d.ok K) = true ∧ ex K = true := by
  have c1 := ba (show ((fa.all fun f => f.ok K) && ((fn.all fun d => d.ok K) && ex K)) = true from congrArg (fun z : AlD => z.1) c)
  obtain ⟨h2, h3⟩ := ba c1.2
  exact ⟨c1.1, h2, h3⟩
theorem SaysY.fact (c : SaysY fa fn ex K) (i : Nat) {f : Fa} (h : fa[i]? = some f := by rfl) : f.ok K = true := List.all_eq_true.mp c.three.1 f (List.mem_of_getElem? h)
theorem SaysY.def_ (c : SaysY fa fn ex K) (i : Nat) {d : DefY} (h : fn[i]? = some d := by rfl) : ∃ fd, FunD K d.name d.qual d.params d.body d.scope (d.dvs K) [] (d.at_.ad K) fd := by
  have e : fn.map (fun d => fnY K (d.at_.ad K)) = fn.map DefY.val := congrArg (fun z : AlD => z.2) c
  have e2 : (fn.map fun d => fnY K (d.at_.ad K))[i]? = (fn.map DefY.val)[i]? := by rw [e]
  rw [List.getElem?_map, List.getElem?_map, h] at e2
  exact DefY.funD (Option.some.inj e2) (List.all_eq_true.mp c.three.2.1 d (List.mem_of_getElem? h))
end
structure TY (fa : List Fa) (fn : List DefY) (ex : PySem.W.Frag → Bool) (K : PySem.W.Frag) (mg : Str → Option Value) : Prop where
  c : SaysY fa fn ex K
  glo : ∀ (i : Nat) (x : Str), fa[i]? = some (.glo x) → mg x = some (.ref (ga K x))
  fre : ∀ (i : Nat) (x : Str), fa[i]? = some (.free x) → mg x = none
  cin : ∀ (i : Nat) (x : Str) (z : Int), fa[i]? = some (.int x z) → ∃ t, mg x = some (.int z t)
  cst : ∀ (i : Nat) (x z : Str), fa[i]? = some (.str x z) → ∃ t, mg x = some (.str z t)
theorem ty_mk {fa : List Fa} {fn : List DefY} {ex : PySem.W.Frag → Bool} {K : PySem.W.Frag} {h : Heap} {mg : Str → Option Value} (X : K.In h) (G : h.Ns mainGlobals mg) (c : SaysY fa fn ex K) : TY fa fn ex K mg :=
  ⟨c, fun i x e => glo_ok X G (c.fact i e), fun i x e => free_ok X G (c.fact i e), fun i x z e => int_ok X G (c.fact i e), fun i x z e => str_ok X G (c.fact i e)⟩
section
variable {fa : List Fa} {fn : List DefY} {ex : PySem.W.Frag → Bool} {K : PySem.W.Frag} {mg : Str → Option Value}
theorem TY.g (T : TY fa fn ex K mg) (i : Nat) {x : Str} (h : fa[i]? = some (.glo x) := by rfl) : mg x = some (.ref (ga K x)) := T.glo i x h
theorem TY.f (T : TY fa fn ex K mg) (i : Nat) {x : Str} (h : fa[i]? = some (.free x) := by rfl) : mg x = none := T.fre i x h
theorem TY.d (T : TY fa fn ex K mg) (i : Nat) {d : DefY} (h : fn[i]? = some d := by rfl) : ∃ fd, FunD K d.name d.qual d.params d.body d.scope (d.dvs K) [] (d.at_.ad K) fd := T.c.def_ i h
theorem TY.k (T : TY fa fn ex K mg) (i : Nat) {d : DefY} (h : fn[i]? = some d := by rfl) : PySem.W.keepIn K (.ref (d.at_.ad K)) = true := by
  obtain ⟨fd, F⟩ := T.c.def_ i h
  exact F.kp
theorem TY.kg (T : TY fa fn ex K mg) (i : Nat) {x : Str} (h : fn[i]?.map DefY.at_ = some (.glo x) := by rfl) : PySem.W.keepIn K (.ref (ga K x)) = true := by
  cases e : fn[i]? with
  | none => rw [e] at h; cases h
  | some d =>
    rw [e] at h
    have h2 : d.at_ = .glo x := Option.some.inj h
    have h3 := T.k i e
    rw [h2] at h3
    exact h3
theorem TY.x (T : TY fa fn ex K mg) : ex K = true := T.c.three.2.2
end
section
variable {X : Cx} {fa : List Fa} {fn : List DefY} {ex : PySem.W.Frag → Bool}
theorem TY.cint (T : TY fa fn ex X.K X.mg) (i : Nat) {x : Str} {z : Int} {pos : Pos} (h : fa[i]? = some (.int x z) := by rfl) (hg : Gl X x := by rfl) (hd : (x == ("__debug__" : Str)) = false := by decide) : PE X (.Name x pos) (tC (.int z)) := by
  obtain ⟨t, e⟩ := T.cin i x z h
  exact pe_glob hg e ⟨t, rfl⟩ hd
end
section
variable {P : Program} {w : World} {K : PySem.W.Frag} {mg : Str → Option Value} {base : Heap} {x qual : Str} {params : Arguments} {body : List Stmt} {scope : Scope} {f : Addr} {N ps : List Str} {k : Nat} {sp : Sp}
theorem fnR_of (hF : ∃ fd, FunD K x qual params body scope [] [] f fd) (S : FnScope N ps scope) (len : ∀ vs H Q E, sp vs H Q E → vs.length = ps.length)
    (bnd : ∀ (kV doc pm : Value) (an : Option Addr) (cdv ct : Value) (us : List Value), us.length = ps.length → bindArgs (PySem.W.fnOf x qual params body scope .none kV doc pm an cdv ct) ⟨us, []⟩ = pure (ps.zip us))
    (hbody : ∀ (cdv : Value) (A : Around) (outer : List Env) (s : Shared) (H : Hp) (vs : List V) (Q : VK) (E : XK), Room k (A.deeper (envOfC qual scope s.heap.objs.size f cdv)) → sp vs H Q E →
      ∃ t, PSs (cxOf (L2.CX P w) P w K mg base N qual scope f cdv A outer s H E) body t ∧ t { nx := fun _ H' => Q .non H', rt := Q } (start N vs) H) : FnR P w K mg base (L2.CX P w) (k + 1) f sp := by
  obtain ⟨fd, F⟩ := hF
  exact ((F.ok S len hbody).raw (F.bindsN bnd) .nil).imp fun vs H Q E h => by rw [List.append_nil]; exact h
end
def dB {α : Type} [DecidableEq α] (a b : α) : Bool := decide (a = b)
theorem dB_ok {α : Type} [DecidableEq α] {a b : α} (h : dB a b = true) : a = b := of_decide_eq_true h
def sclsB (K : PySem.W.Frag) (C : Addr) : Bool := PySem.W.plainGet K C Str.empty && (PySem.W.isClsIn K C && (PySem.W.plainOver K C && eqO (PySem.W.findIn K (.ref C) "__setattr__") (some (some (.builtin "object.__setattr__")))))
theorem sclsB_ok {K : PySem.W.Frag} {C : Addr} (h : sclsB K C = true) : SlX.SCls K C := by
  obtain ⟨h1, h⟩ := ba h
  obtain ⟨h2, h⟩ := ba h
  obtain ⟨h3, h4⟩ := ba h
  exact ⟨h1, h2, h3, eqO_ok h4⟩
def sisiB (K : PySem.W.Frag) (C : Addr) : Bool := eqO (PySem.W.findIn K (.ref C) "__class__") (some (some (.builtin "object.__class__"))) && (eqO (PySem.W.specialIn K (.builtin "object.__class__") "__get__") (some (some (.builtin "getset_descriptor.__get__"))) &&
  (dB (PySem.W.takesIn K (.builtin "object.__class__")) (some true) && dB (PySem.W.mroIn K C (.type "object")) (some true)))
theorem sisiB_ok {K : PySem.W.Frag} {C : Addr} (h : sisiB K C = true) : SlX.SIsi K C := by
  obtain ⟨h1, h⟩ := ba h
  obtain ⟨h2, h⟩ := ba h
  obtain ⟨h3, h4⟩ := ba h
  exact ⟨eqO_ok h1, eqO_ok h2, dB_ok h3, dB_ok h4⟩
def slotB (K : PySem.W.Frag) (C : Addr) (f : Str) (i : Nat) : Bool := eqO (PySem.W.findIn K (.ref C) f) (some (some (.ref (ma K C f)))) && (eqO (PySem.W.specialIn K (.ref (ma K C f)) "__get__") (some (some (.builtin "member_descriptor.__get__"))) &&
  (dB (PySem.W.takesIn K (.ref (ma K C f))) (some true) && (dB (PySem.W.typeIn K (.ref (ma K C f))) (some (.type "member_descriptor")) && dB (PySem.W.slotIn K (ma K C f) C) (some i))))
theorem slotB_ok {K : PySem.W.Frag} {C : Addr} {f : Str} {i : Nat} (h : slotB K C f i = true) (hi : i < 1000 := by decide) : SlX.Slot1 K C f (ma K C f) i := by
  obtain ⟨h1, h⟩ := ba h
  obtain ⟨h2, h⟩ := ba h
  obtain ⟨h3, h⟩ := ba h
  obtain ⟨h4, h5⟩ := ba h
  exact ⟨eqO_ok h1, eqO_ok h2, dB_ok h3, dB_ok h4, dB_ok h5, hi⟩
structure PropSl (K : PySem.W.Frag) (C : Addr) (f : Str) (p g : Addr) : Prop where
  at_ : PySem.W.findIn K (.ref C) f = some (some (.ref p))
  get : PySem.W.specialIn K (.ref p) "__get__" = some (some (.builtin "property.__get__"))
  tk : PySem.W.takesIn K (.ref p) = some true
  rc : ∃ rest, PySem.W.recIn K p "property" = some (.ref g :: rest)
def propB (K : PySem.W.Frag) (C : Addr) (f : Str) : Bool := eqO (PySem.W.findIn K (.ref C) f) (some (some (.ref (ma K C f)))) && (eqO (PySem.W.specialIn K (.ref (ma K C f)) "__get__") (some (some (.builtin "property.__get__"))) &&
  (dB (PySem.W.takesIn K (.ref (ma K C f))) (some true) && (match PySem.W.recIn K (ma K C f) "property" with | some (.ref _ :: _) => true | _ => false)))
theorem propB_ok {K : PySem.W.Frag} {C : Addr} {f : Str} (h : propB K C f = true) : PropSl K C f (ma K C f) (recFn K (ma K C f) "property") := by
  obtain ⟨h1, h⟩ := ba h
  obtain ⟨h2, h⟩ := ba h
  obtain ⟨h3, h4⟩ := ba h
  refine ⟨eqO_ok h1, eqO_ok h2, dB_ok h3, ?_⟩
  unfold recFn
  split at h4
  · rename_i g rest e
    rw [e]
    exact ⟨rest, rfl⟩
  · cases h4
def methB (K : PySem.W.Frag) (C : Addr) (m : Str) : Bool := eqO (PySem.W.findIn K (.ref C) m) (some (some (.ref (ma K C m)))) && (PySem.W.isFn K (.ref (ma K C m)) && PySem.W.keepIn K (.ref (ma K C m)))
theorem methB_ok {K : PySem.W.Frag} {C : Addr} {m : Str} (h : methB K C m = true) : Meth K C m (ma K C m) := by
  obtain ⟨h1, h⟩ := ba h
  obtain ⟨h2, h3⟩ := ba h
  exact ⟨eqO_ok h1, h2, h3⟩
def mkB (K : PySem.W.Frag) (C : Addr) : Bool := PySem.W.makesIn K C && (eqO (PySem.W.findIn K (.ref C) "__init__") (some (some (.ref (ma K C "__init__")))) && (PySem.W.isFn K (.ref (ma K C "__init__")) && PySem.W.keepIn K (.ref C)))
theorem mkB_ok {K : PySem.W.Frag} {C : Addr} (h : mkB K C = true) : Mk K C (ma K C "__init__") := by
  obtain ⟨h1, h⟩ := ba h
  obtain ⟨h2, h⟩ := ba h
  obtain ⟨h3, h4⟩ := ba h
  exact ⟨h1, eqO_ok h2, h3, h4⟩
def ownOpB (K : PySem.W.Frag) (C : Addr) (nm : String) : Bool := PySem.W.selfFirst K C && (eqO (PySem.W.findIn K (.ref C) (PySem.dunder nm)) (some (some (.ref (ma K C (PySem.dunder nm))))) && (PySem.W.isFn K (.ref (ma K C (PySem.dunder nm))) &&
  (eqO (PySem.W.findIn K (.ref C) (dunderR nm)) (some none) && ((PySem.W.findIn K (.type "int") (PySem.dunder nm)).isSome && ((PySem.W.findIn K (.type "int") (dunderR nm)).isSome && dB (PySem.W.subIn K (.type "int") (.ref C)) (some false))))))
theorem ownOpB_ok {K : PySem.W.Frag} {C : Addr} {nm : String} (h : ownOpB K C nm = true) : OwnOp K C nm (ma K C (PySem.dunder nm)) := by
  obtain ⟨h1, h⟩ := ba h
  obtain ⟨h2, h⟩ := ba h
  obtain ⟨h3, h⟩ := ba h
  obtain ⟨h4, h⟩ := ba h
  obtain ⟨h5, h⟩ := ba h
  obtain ⟨h6, h7⟩ := ba h
  exact ⟨h1, eqO_ok h2, h3, eqO_ok h4, Option.isSome_iff_exists.mp h5, Option.isSome_iff_exists.mp h6, dB_ok h7⟩
end Wl
set_option Elab.async false
set_option linter.all false
set_option maxRecDepth 100000
set_option maxHeartbeats 4000000
namespace Wl
open PySem PySem.Spec PyProof.Rows L2 He
def oexB0 (K : PySem.W.Frag) (C : Addr) : Bool := match K.lookup C with
  | some ⟨.type "type", _, .cls cd, sl⟩ => (match cd.mro, sl.toList with
    | .ref C' :: bm, [_, _, _, _, some (.builtin n), _] => C' == C && n == "ValueError.__new__" && !cd.hasDel && PySem.HandSPX.refsVE bm && cd.hasDict
    | _, _ => false)
  | _ => false
theorem oexB0_ok {K : PySem.W.Frag} {C : Addr} (q : oexB0 K C = true) : ∃ nm qn N bs bm sn sub ab col dd k0 k1 k2 k3 k5, K.lookup C = some (excClassObj nm qn C N bs bm true sn sub ab col dd k0 k1 k2 k3 k5 "ValueError.__new__") ∧ PySem.HandSPX.refsVE bm = true := by
  unfold oexB0 at q
  split at q
  · rename_i dd cd sl ho
    split at q
    · rename_i C' bm k0 k1 k2 k3 n k5 hm hs
      simp only [Bool.and_eq_true, beq_iff_eq, Bool.not_eq_true'] at q
      obtain ⟨⟨⟨⟨rfl, rfl⟩, hdel⟩, ht⟩, hd⟩ := q
      obtain ⟨nm, bs, mro, ns, qn, hd', sn, sub, ab, col, del⟩ := cd
      dsimp only at hm hdel hd
      subst hm hdel hd
      have hsl : sl = #[k0, k1, k2, k3, some (.builtin "ValueError.__new__"), k5] := by
        obtain ⟨l⟩ := sl
        simp only at hs
        rw [hs]
      subst hsl
      exact ⟨nm, qn, ns, bs, bm, sn, sub, ab, col, dd, k0, k1, k2, k3, k5, ho, ht⟩
    · cases q
  · cases q
def oexB (K : PySem.W.Frag) (C : Addr) : Bool := oexB0 K C && (eqO (PySem.W.findIn K (.ref C) "__setattr__") (some (some (.builtin "object.__setattr__"))) && (dB (PySem.W.subIn K (.ref C) (.type "BaseException")) (some true) && (dB (PySem.W.typeIn K (.ref C)) (some (.type "type")) && PySem.W.keepIn K (.ref C))))
theorem oexB_ok {K : PySem.W.Frag} {C : Addr} (h : oexB K C = true) : OexC K C := by
  obtain ⟨h1, h⟩ := ba h
  obtain ⟨h2, h⟩ := ba h
  obtain ⟨h3, h⟩ := ba h
  obtain ⟨h4, h5⟩ := ba h
  exact ⟨oexB0_ok h1, eqO_ok h2, dB_ok h3, dB_ok h4, h5⟩
structure OwnInit (K : PySem.W.Frag) (C f : Addr) : Prop where
  at_ : PySem.W.findIn K (.ref C) "__init__" = some (some (.ref f))
  ty : PySem.W.typeIn K (.ref f) = some (.type "function")
def ownInitB (K : PySem.W.Frag) (C : Addr) : Bool := eqO (PySem.W.findIn K (.ref C) "__init__") (some (some (.ref (ma K C "__init__")))) && dB (PySem.W.typeIn K (.ref (ma K C "__init__"))) (some (.type "function"))
theorem ownInitB_ok {K : PySem.W.Frag} {C : Addr} (h : ownInitB K C = true) : OwnInit K C (ma K C "__init__") := by
  obtain ⟨h1, h2⟩ := ba h
  exact ⟨eqO_ok h1, dB_ok h2⟩
structure BaseInit (K : PySem.W.Frag) (B : Addr) : Prop where
  rd : PySem.W.readsIn K B (.type "type") = true
  ga : PySem.W.specialIn K (.ref B) "__getattribute__" = some (some (.builtin "type.__getattribute__"))
  at_ : PySem.W.findCls K (.ref B) (.type "type") "__init__" = some (.val (.builtin "ValueError.__init__"))
def isValB (o : Option PySem.W.CFound) (v : Value) : Bool := match o with
  | some (.val u) => decide (u = v)
  | _ => false
theorem isValB_ok {o : Option PySem.W.CFound} {v : Value} (h : isValB o v = true) : o = some (.val v) := by
  unfold isValB at h
  split at h
  · rw [of_decide_eq_true h]
  · cases h
def baseInitB (K : PySem.W.Frag) (B : Addr) : Bool := PySem.W.readsIn K B (.type "type") && (eqO (PySem.W.specialIn K (.ref B) "__getattribute__") (some (some (.builtin "type.__getattribute__"))) && isValB (PySem.W.findCls K (.ref B) (.type "type") "__init__") (.builtin "ValueError.__init__"))
theorem baseInitB_ok {K : PySem.W.Frag} {B : Addr} (h : baseInitB K B = true) : BaseInit K B := by
  obtain ⟨h1, h⟩ := ba h
  obtain ⟨h2, h3⟩ := ba h
  exact ⟨h1, eqO_ok h2, isValB_ok h3⟩
section
variable {X : Cx} {e : Expr} {es : List Expr} {ta : TA} {x : Str} {B : Addr} {p1 p2 pos : Pos}
theorem pe_clsinit {pl : Sem Bool} (b : BaseInit X.K B) (hg : Gl X x) (hm : X.mg x = some (.ref B)) (ha : PA X (e :: es) ta)
    (hc : eval (.Call (.Attribute (.Name x p1) "__init__" p2) (e :: es) [] pos) X.env = (do
      let ov ← eval (.Name x p1) X.env
      standAt p2.atName
      let (f, first) ← holding [ov] (getMethod ov "__init__" pl)
      callWith pos f first (backTo pos (starEach (e :: es) X.env)) (backToKw pos (keywordEach [] X.env))) := by rfl)
    (hdb : (x == ("__debug__" : Str)) = false := by decide) (he : starEach (e :: es) X.env = (false, eval e X.env) :: starEach es X.env := by rfl) (hpl : (backTo pos (starEach es X.env)).any (·.1) = false := by rfl) :
    PE X (.Call (.Attribute (.Name x p1) "__init__" p2) (e :: es) [] pos) (tVeI X.K ta) := by
  refine ⟨fun pins s σ H Q I h => ?_⟩
  refine PySem.W.methodCall_KW (ld_glob I hg hm ?_ hdb) hc
  refine PySem.W.method_cls I.kIn b.ga (PySem.W.cls_value I.kIn b.rd b.at_ (by decide +kernel) ?_)
  show wpAny _ _ (callWith pos (Value.builtin "ValueError.__init__") [] (backTo pos (starEach (e :: es) X.env)) []) _ _ _
  refine PyProof.Rows.callWith_method1 (thn (ha.run pos pins _ σ H _ (I.tok _) h) fun us s1 ⟨vs, H1, I1, r1, a, C, ws, ev, hl, T, ea, q⟩ => ?_) he hpl
  subst ev
  cases r1 with
  | @cons _ u0 _ ur ra rw' =>
    obtain rfl : u0 = Value.ref a := ra
    have hlen : ur.length ≤ sizeLine := by
      rw [← Paired.length rw', sizeLine_eq]
      omega
    exact oinit_ok T I1 ea hlen fun s' J => ⟨.non, H1, J, rfl, q⟩
end
section
variable {X : Cx} {e : Expr} {es : List Expr} {ta : TA} {p pos : Pos}
theorem mk_endN {pins : List (Addr × Obj)} {σ : L2.St} {H1 H2 : Hp} {Q : XK} {hp hp2 h2 : Heap} {g1 g2 : Array GenState} {d1 d2 : Drawn} {t1 t2 : Nat} {os1 os2 : OsState} {a C : Addr} (T : Raises X (.ref C)) (I1 : Inv X pins σ H1 ⟨hp, g1, d1, t1, os1⟩)
    (ha : hp.objs.size ≤ a) (k : ∀ b o, hp.get? b = some o → hp2.get? b = some o) (un : Un (frs X.stack) [] (upd H1 a (exo a C none)) H2 hp2 h2) (hok : HOk X.prog X.w H2 h2) (ho : os2 = os1) (hb : AllBare g2)
    (ea : H2 a = some (exo a C none)) (q : Q (.ref C) none (del H2 a)) : MkP X pins σ Q (.ref a) ⟨h2, g2, d2, t2, os2⟩ := by
  obtain ⟨t0, hoe⟩ := exo_at hok ea
  have hn : H1 a = none := I1.hok.fresh ha
  obtain ⟨G, g1', g2'⟩ := restrict h2 fun b => decide (b ≠ a)
  have gk : ∀ b, b ≠ a → G.get? b = h2.get? b := fun b hb => g1' b (decide_eq_true hb)
  have ge : G.get? a = none := g2' a (by simp)
  have nha : ∀ {b : Addr} {o : Obj}, hp.get? b = some o → b ≠ a := fun {b o} z => Nat.ne_of_lt (Nat.lt_of_lt_of_le (Heap.lt_size z) ha)
  have up : ∀ {b : Addr}, b ≠ a → H1 b = none → upd H1 a (exo a C none) b = none := fun {b} hb n => by rw [upd_ne hb]; exact n
  have U : Un (frs X.stack) [] H1 (del H2 a) hp G := {
    keep := fun b o z n hf hx => by
      rw [gk b (nha z)]
      exact un.keep b o (k b o z) (up (nha z) n) hf hx
    slot := fun b o z n hf hx => by
      rw [gk b (nha z)]
      exact un.slot b o (k b o z) (up (nha z) n) hf hx
    free := fun b o z n hx => by
      rw [del_ne (nha z)]
      exact un.free b o (k b o z) (up (nha z) n) hx
    there := fun b o z hx => by
      rw [gk b (nha z)]
      exact un.there b o (k b o z) hx
    tups := fun b xs z => by
      rw [del_ne (ne_of_none z hn)]
      exact un.tups b xs (by rw [upd_ne (ne_of_none z hn)]; exact z)
    frzs := fun b o v z => by
      rw [del_ne (ne_of_none z hn)]
      exact un.frzs b o v (by rw [upd_ne (ne_of_none z hn)]; exact z)
    tbls := fun b ps z => by
      rw [del_ne (ne_of_none z hn)]
      exact un.tbls b ps (by rw [upd_ne (ne_of_none z hn)]; exact z) }
  have hok3 : HOk X.prog X.w (del H2 a) G := fun b o z => by
    have hba : b ≠ a := fun e => by
      rw [e, del_same] at z
      cases z
    rw [del_ne hba] at z
    have noa : ∀ {c : Addr}, H2 c = some (.own b) → c ≠ a := fun {c} hc => at_ne ea hc exo_own
    exact (hok b o z).stay (fun c v hc y => by
        have hca : c ≠ a := by
          rcases hc with hc | hc
          · rw [hc]
            exact hba
          · exact noa hc
        rw [gk c hca]
        exact y)
      (fun c hc => by rw [del_ne (noa hc)]; exact hc) (fun c xs hc => by rw [del_ne (at_ne ea hc exo_tup)]; exact hc)
  have J : Inv X pins σ (del H2 a) ⟨G, g2, d2, t2, os2⟩ := I1.call' (ch := []) ho U hok3 hb (fun b z => absurd z (by simp))
  have kG : ∀ b o, G.get? b = some o → h2.get? b = some o := fun b o z => by
    by_cases hba : b = a
    · rw [hba, ge] at z
      cases z
    · exact (gk b hba).symm.trans z
  exact ⟨a, _, _, ⟨G, g2, d2, t2, os2⟩, _, .ref C, none, rfl, J, kG, ge, hoe, ⟨rfl, rfl⟩, rfl, rfl, del_same, rfl, hb, T, q⟩
def MkEnd (C a : Addr) (H1 : Hp) (Q : XK) : VK := fun v H2 => v = .non ∧ ((∃ (d : Addr) (fs : List (Str × V)), H2 a = some (exo a C (some d)) ∧ H2 d = some (exd d fs) ∧ H1 d = none ∧ Q (.ref C) (some d) (upd (del H2 a) d (.xd fs))) ∨ (H2 a = some (exo a C none) ∧ Q (.ref C) none (del H2 a)))
def tMkE (C : Addr) (sp : Sp) (ta : TA) : L2.St → Hp → XK → Prop := fun σ H Q => ta σ H fun vs H1 => vs.length ≤ 1000 ∧ ∀ a, H1 a = none → sp (.ref a :: vs) (upd H1 a (exo a C none)) (MkEnd C a H1 Q) E0
theorem run_mkE {CX : CXT} {C fI : Addr} {k : Nat} {sp : Sp} {pins : List (Addr × Obj)} {σ : L2.St} {H1 : Hp} {s1 : Shared} {Q : XK} {vs : List V} {us : List Value} (T : OexC X.K C) (O : OwnInit X.K C fI) (F1 : FnR X.prog X.w X.K X.mg X.base CX k fI sp) (hr : Room (k + 1) X.A) (hx : Passes CX X E0)
    (I1 : Inv X pins σ H1 s1) (r1 : Vals vs us) (hz : vs.length ≤ 1000) (q1 : ∀ a, H1 a = none → sp (.ref a :: vs) (upd H1 a (exo a C none)) (MkEnd C a H1 Q) E0) : wpAny (model X.prog X.w) X.A (call (.ref C) us) (MkP X pins σ Q) X.xe s1 := by
  obtain ⟨nm, q, N, bs, bm, sn, sub, ab, col, dd, k0, k1, k2, k3, k5, hC, hbm⟩ := T.cls
  obtain ⟨hp, g, dr, tk, os⟩ := s1
  have hsz : hp.objs.size ≤ hp.objs.size + 1 := Nat.le_succ _
  have hn : H1 (hp.objs.size + 1) = none := I1.hok.fresh hsz
  have hq := q1 (hp.objs.size + 1) hn
  have kk : ∀ b o, hp.get? b = some o → ((hp.push (PySem.W.kdv_tup us)).push (PySem.HandSPX.excO C hp.objs.size)).get? b = some o := fun b o e => Heap.get?_push_of_some _ (Heap.get?_push_of_some _ e)
  have hget : ((hp.push (PySem.W.kdv_tup us)).push (PySem.HandSPX.excO C hp.objs.size)).get? (hp.objs.size + 1) = some (PySem.HandSPX.excO C hp.objs.size) := by heap_get
  have I2 : Inv X pins σ (upd H1 (hp.objs.size + 1) (exo (hp.objs.size + 1) C none)) ⟨(hp.push (PySem.W.kdv_tup us)).push (PySem.HandSPX.excO C hp.objs.size), g, dr, tk, os⟩ :=
    I1.laid (t' := tk) (a := hp.objs.size + 1) (o := exo (hp.objs.size + 1) C none) (h' := (hp.push (PySem.W.kdv_tup us)).push (PySem.HandSPX.excO C hp.objs.size)) kk hsz (exo_ok hget)
  have r2 : Vals (V.ref (hp.objs.size + 1) :: vs) (Value.ref (hp.objs.size + 1) :: us) := .cons rfl r1
  have hus : us.length ≤ sizeLine := by
    rw [← Paired.length r1, sizeLine_eq]
    omega
  refine wpAny_call (PySem.HandSPX.call_own F.excBase_ValueError (fun Y => PySem.HandSPX.refsVE_contains Y bm hbm) (I1.kIn _ _ hC) (PySem.W.looks_findIn I1.kIn O.at_) (fun self => PySem.W.bind_fn I1.kIn self O.ty) hus
    (codeAny_mono (F1 _ X.stack _ _ (Value.ref (hp.objs.size + 1) :: us) (V.ref (hp.objs.size + 1) :: vs) _ E0 (hr.make C us []) (I2.env0.make C us []) r2 hq) fun r s' hq' => ?_))
  cases r with
  | error er => exact hx pins σ _ _ er s' I2 hq'
  | ok fl =>
    cases fl with
    | ret u =>
      obtain ⟨v, H2, os2, bare2, un2, hok2, rv, ev, q2⟩ := hq'
      subst ev
      obtain ⟨h2, g2, d2, t2, os'⟩ := s'
      rcases q2 with ⟨d, fs, ea, ed, hd1, q2⟩ | ⟨ea, q2⟩
      · exact ⟨rv, mk_end (raises_own T.exC T.tyC) I1 hsz kk un2 hok2 os2 bare2 ea ed hd1 q2⟩
      · exact ⟨rv, mk_endN (raises_own T.exC T.tyC) I1 hsz kk un2 hok2 os2 bare2 ea q2⟩
    | next => exact False.elim hq'
    | brk => exact False.elim hq'
    | cont => exact False.elim hq'
theorem pmk_exc {CX : CXT} {x : Str} {C fI : Addr} {k : Nat} {sp : Sp} (T : OexC X.K C) (O : OwnInit X.K C fI) (F1 : FnR X.prog X.w X.K X.mg X.base CX k fI sp) (hr : Room (k + 1) X.A) (hx : Passes CX X E0) (hg : Gl X x) (hm : X.mg x = some (.ref C)) (ha : PA X (e :: es) ta)
    (hdb : (x == ("__debug__" : Str)) = false := by decide) (he : starEach (e :: es) X.env = (false, eval e X.env) :: starEach es X.env := by rfl) (hpl : (backTo pos (starEach es X.env)).any (·.1) = false := by rfl) :
    PMk X (.Call (.Name x p) (e :: es) [] pos) (tMkE C sp ta) := by
  intro pins s σ H Q I h
  refine wpAny_Call_Name_kw (ld_glob I hg hm ?_ hdb)
  refine PySem.W.callWith_K (h₀ := X.base) I.ok.mod.kin T.kC (thn (ha.run pos pins s σ H _ I h) fun us s1 ⟨vs, H1, I1, r1, hz, q1⟩ => ⟨I1.kIn, ?_⟩) he hpl
  exact run_mkE T O F1 hr hx I1 r1 hz q1
theorem pmk_exc0 {CX : CXT} {x : Str} {C fI : Addr} {k : Nat} {sp : Sp} (T : OexC X.K C) (O : OwnInit X.K C fI) (F1 : FnR X.prog X.w X.K X.mg X.base CX k fI sp) (hr : Room (k + 1) X.A) (hx : Passes CX X E0) (hg : Gl X x) (hm : X.mg x = some (.ref C))
    (hdb : (x == ("__debug__" : Str)) = false := by decide) : PMk X (.Call (.Name x p) [] [] pos) (tMkE C sp tNil) := by
  intro pins s σ H Q I h
  refine wpAny_Call_Name_kw (ld_glob I hg hm ?_ hdb)
  obtain ⟨hz, q1⟩ := h
  exact PySem.W.callWith_K0 I.kIn T.kC (run_mkE T O F1 hr hx I .nil hz q1)
end
def spExc1 (C : Addr) (f : Str) : Sp := fun vs H Q _ => ∃ (a : Addr) (v : V), vs = [.ref a, v] ∧ H a = some (exo a C none) ∧ ∀ d, H d = none → d ≠ a → Q .non (upd (upd H d (exd d [(f, v)])) a (exo a C (some d)))
def spExc0 (C : Addr) : Sp := fun vs H Q _ => ∃ (a : Addr), vs = [.ref a] ∧ H a = some (exo a C none) ∧ Q .non H
theorem rd_exc1 {C : Addr} {f : Str} {H1 : Hp} {Q : XK} {v : V} (k : ∀ d H', Same H1 H' → H1 d = none → H' d = some (.xd [(f, v)]) → Q (.ref C) (some d) H') : ∀ a, H1 a = none → spExc1 C f (.ref a :: [v]) (upd H1 a (exo a C none)) (MkEnd C a H1 Q) E0 := by
  intro a ha
  refine ⟨a, v, rfl, upd_same, fun d hd hda => ⟨rfl, .inl ⟨d, _, upd_same, by rw [upd_ne hda, upd_same], ?_, ?_⟩⟩⟩
  · rw [upd_ne hda] at hd; exact hd
  · have hd1 : H1 d = none := by rw [upd_ne hda] at hd; exact hd
    refine k d _ (fun b o e => ?_) hd1 upd_same
    have hb : b ≠ a := ne_of_none e ha
    have hbd : b ≠ d := ne_of_none e hd1
    rw [upd_ne hbd, del_ne hb, upd_ne hb, upd_ne hbd, upd_ne hb]
    exact e
theorem rd_exc0 {C : Addr} {H1 : Hp} {Q : XK} (k : ∀ H', Same H1 H' → Q (.ref C) none H') : ∀ a, H1 a = none → spExc0 C (.ref a :: []) (upd H1 a (exo a C none)) (MkEnd C a H1 Q) E0 := by
  intro a ha
  refine ⟨a, rfl, upd_same, rfl, .inr ⟨upd_same, k _ fun b o e => ?_⟩⟩
  have hb : b ≠ a := ne_of_none e ha
  rw [del_ne hb, upd_ne hb]
  exact e
end Wl
set_option Elab.async false
set_option linter.all false
set_option maxRecDepth 100000
set_option maxHeartbeats 4000000
namespace Wl
open PySem PySem.Spec PyProof.Rows L2 He
section
variable {X : Cx} {R : Addr} {pins : List (Addr × Obj)} {σ : L2.St} {H : Hp} {s : Shared}
theorem kit_Y (cl : SlX.SCls X.K R) (isi : SlX.SIsi X.K R) {y : V} {u t : Value} (I : Inv X pins σ H s) (ry : RelV y u) (h : TyY X.K R y H t) : ∃ P : Heap → Prop, PySem.W.KitX X.K u t P ∧ P s.heap ∧ u ≠ .builtin "__main__.__loader__#opaque" := by
  rcases h with h | ⟨rfl, b, dy, ws, rfl, hb⟩
  · exact kit_of I ry h
  · cases (show u = Value.ref b from ry)
    obtain ⟨sl', od', _, J', _⟩ := SlX.slt_inst I hb
    exact ⟨_, OwX.kitx_slt cl.ic (cl.get _) isi.ca isi.cn isi.ct isi.cm, J', fun z => nomatch z⟩
end
theorem cx_never {P : Program} {w : World} {outer : List Env} {H : Hp} {s : Shared} {e : Value} {s' : Shared} (h : L2.CX P w outer H s E0 e s') : False := by
  obtain ⟨_, _, _, _, _, _, _, _, _, _, _, _, z⟩ := h
  exact z
section
variable {X : Cx} {CX : CXT} {k n : Nat} {f C p g : Addr} {sp : Sp} {E : XK} {x : Str} {pp pos : Pos} {e l : Expr} {es : List Expr} {ta tl : TE} {t : TA} {fn : Str} {tg : Expr}
theorem pe_prp (c : SlX.SCls X.K C) (hp : PropSl X.K C fn p g) (F : FnR X.prog X.w X.K X.mg X.base (L2.CX X.prog X.w) n g sp) (hr : Room (n + 1) X.A) (he : PE X e ta)
    (hb : attributeBase e fn X.env (eval e X.env) = eval e X.env := by rfl) : PE X (.Attribute e fn pos) (SlX.tPropSl C sp E0 ta) :=
  SlX.pe_propSl he c hp.at_ hp.get hp.tk hp.rc F hr (fun _ _ _ _ h => cx_never h) hb
structure iSeq (K : PySem.W.Frag) (tl : TE) (σ : L2.St) (H : Hp) (R : It → Hp → Prop) : Prop where
  h : tl σ H fun x H1 => ∃ a, x = .ref a ∧ ((∃ xs, SqL K H1 a xs ∧ R (Itl K a) H1) ∨ ∃ xs, SqT K H1 a xs ∧ R (Itt K a) H1)
theorem pi_seq (hl : PE X l tl) : PI X tg l (iSeq X.K tl) := by
  refine ⟨fun pins s σ H R I ⟨h⟩ => ?_⟩
  refine thn (hl.run pins s σ H _ I h) fun v s1 ⟨x, H1, I1, r1, q1⟩ => ?_
  obtain ⟨a, e, q⟩ := q1
  subst e
  cases r1
  rcases q with ⟨xs, hq, q⟩ | ⟨xs, hq, q⟩
  · obtain ⟨its, rv, p, hz⟩ := I1.list hq
    refine wpAny_pyIter_list p.isList ?_
    refine ⟨s1.heap.objs.size, [s1.heap.objs.size], _, _, H1, rfl, I1.kept (t' := s1.toks) fun b o e => Heap.get?_push_of_some _ e, turn_list a _, ⟨_, Heap.get?_push_size _ rfl, rfl, rfl⟩, fun b hb => ?_, q⟩
    have e : b = s1.heap.objs.size := by simpa using hb
    subst e
    exact I1.fpOk (Nat.le_refl _) (I1.hok.fresh (Nat.le_refl _))
  · obtain ⟨its, rv, p, hz⟩ := I1.tuple hq
    refine wpAny_pyIter_tuple (show s1.heap.IsTuple a its.toArray from p) ?_
    refine ⟨s1.heap.objs.size, [s1.heap.objs.size], _, _, H1, rfl, I1.kept (t' := s1.toks) fun b o e => Heap.get?_push_of_some _ e, turn_tuple a _, ⟨_, Heap.get?_push_size _ rfl, rfl, rfl⟩, fun b hb => ?_, q⟩
    have e : b = s1.heap.objs.size := by simpa using hb
    subst e
    exact I1.fpOk (Nat.le_refl _) (I1.hok.fresh (Nat.le_refl _))
end
end Wl
set_option Elab.async false
set_option linter.all false
set_option maxRecDepth 100000
set_option maxHeartbeats 4000000
namespace Wl
open PySem PySem.Spec PyProof.Rows L2
section
open Builtin
variable {prog : Program} {w : World} {A : Around} {E : Value → Shared → Prop} {s : Shared}
end
def ItE (K : PySem.W.Frag) (a : Addr) : It :=
  ⟨fun i H => ∃ (xs : List V) (x : V), SqT K H a xs ∧ xs[i]? = some x, fun i H v H' => ∃ T x, v = .ref T ∧ H T = none ∧ H' = upd H T (.tup [.int (i : Nat), x]) ∧ ∀ xs, SqT K H a xs → xs[i]? = some x, fun i H => ∃ xs : List V, SqT K H a xs ∧ xs.length = i⟩
structure iEnumS (K : PySem.W.Frag) (ta : TA) (σ : L2.St) (H : Hp) (R : It → Hp → Prop) : Prop where
  h : ta σ H fun vs H1 => ∃ a xs, vs = [.ref a] ∧ ((SqL K H1 a xs ∧ R (Ite K a) H1) ∨ (SqT K H1 a xs ∧ R (ItE K a) H1))
end Wl
set_option Elab.async false
set_option linter.all false
set_option maxRecDepth 100000
set_option maxHeartbeats 4000000
namespace Wl
open PySem PySem.Spec PyProof.Rows L2 He
theorem OpR.imp {X : Cx} {f : Value → Value → Sem Value} {r r' : R2} (h : OpR X f r) (k : ∀ x y H Q, r' x y H Q → r x y H Q) : OpR X f r' := fun pins s σ H x y v u Q I rx ry q => h pins s σ H x y v u Q I rx ry (k _ _ _ _ q)
structure FnD (P : Program) (w : World) (K : PySem.W.Frag) (mg : Str → Option Value) (base : Heap) (k : Nat) (f : Addr) (ps : List Str) (sp : Sp) (x qual : Str) (params : Arguments) (body : List Stmt) (scope : Scope) : Prop where
  ex : ∃ fd, FunD K x qual params body scope [] [] f fd ∧ FnOk P w K mg base (L2.CX P w) k f fd ps sp
section
variable {P : Program} {w : World} {K : PySem.W.Frag} {mg : Str → Option Value} {base : Heap} {x qual : Str} {params : Arguments} {body : List Stmt} {scope : Scope} {f : Addr} {N ps : List Str} {k : Nat} {sp : Sp}
theorem fnD_of (hF : ∃ fd, FunD K x qual params body scope [] [] f fd) (S : FnScope N ps scope) (len : ∀ vs H Q E, sp vs H Q E → vs.length = ps.length)
    (hbody : ∀ (cdv : Value) (A : Around) (outer : List Env) (s : Shared) (H : Hp) (vs : List V) (Q : VK) (E : XK), Room k (A.deeper (envOfC qual scope s.heap.objs.size f cdv)) → sp vs H Q E →
      ∃ t, PSs (cxOf (L2.CX P w) P w K mg base N qual scope f cdv A outer s H E) body t ∧ t { nx := fun _ H' => Q .non H', rt := Q } (start N vs) H) : FnD P w K mg base (k + 1) f ps sp x qual params body scope := by
  obtain ⟨fd, F⟩ := hF
  exact ⟨fd, F, F.ok S len hbody⟩
theorem FnD.r (D : FnD P w K mg base k f ps sp x qual params body scope)
    (bnd : ∀ (kV doc pm : Value) (an : Option Addr) (cdv ct : Value) (us : List Value), us.length = ps.length → bindArgs (PySem.W.fnOf x qual params body scope .none kV doc pm an cdv ct) ⟨us, []⟩ = pure (ps.zip us)) : FnR P w K mg base (L2.CX P w) k f sp := by
  obtain ⟨fd, F, G⟩ := D.ex
  exact (G.raw (F.bindsN bnd) .nil).imp fun vs H Q E h => by rw [List.append_nil]; exact h
def FnKw (P : Program) (w : World) (K : PySem.W.Frag) (mg : Str → Option Value) (base : Heap) (k : Nat) (f : Addr) (n : Nat) (ks : List Str) (sp : Sp) : Prop :=
  ∀ (A : Around) (outer : List Env) (s : Shared) (H : Hp) (us ws : List Value) (vs : List V) (Q : VK) (E : XK), us.length = n → Room k A → Env0 P w K mg base A outer s H → Vals vs (us ++ ws) → sp vs H Q E →
    codeAny (model P w) A (.call (.ref f) ⟨us, ks.zip ws⟩) (CR (L2.CX P w) outer P w H s Q E) s
theorem FnD.kw (D : FnD P w K mg base k f ps sp x qual params body scope) (n : Nat) (ks : List Str) (hn : n + ks.length = ps.length)
    (bnd : ∀ (kV doc pm : Value) (an : Option Addr) (cdv ct : Value) (us ws : List Value), us.length = n → ws.length = ks.length → bindArgs (PySem.W.fnOf x qual params body scope .none kV doc pm an cdv ct) ⟨us, ks.zip ws⟩ = pure (ps.zip (us ++ ws))) : FnKw P w K mg base k f n ks sp := by
  obtain ⟨fd, F, G⟩ := D.ex
  intro A outer s H us ws vs Q E hl hr e0 r hs
  have l1 : (us ++ ws).length = ps.length := by rw [← r.length]; exact G.len _ _ _ _ hs
  have l2 : ws.length = ks.length := by rw [List.length_append, hl] at l1; omega
  refine G.run A outer s H ⟨us, ks.zip ws⟩ (us ++ ws) vs Q E hr e0 ?_ r hs
  obtain ⟨oc, od, dV, kV, doc, pm, an, cdv, ct, osl, rfl, lk, hcd, hD, hK⟩ := F.ex
  rcases hD with ⟨_, rfl⟩ | ⟨e, _⟩
  · exact .of_eq (bnd kV doc pm an cdv ct us ws hl l2)
  · exact absurd rfl e
end
section
variable {X : Cx} {k n : Nat} {f C : Addr} {ks : List Str} {sp : Sp} {E : XK} {x m : Str} {p pos apos : Pos} {e o : Expr} {es : List Expr} {kws : List Keyword} {ta : TE} {t tk : TA}
end
end Wl
set_option Elab.async false
set_option linter.all false
set_option maxRecDepth 100000
set_option maxHeartbeats 4000000
namespace Wl
open PySem PySem.SeqAt
open AutoSeq1 (wpAny_loadPart')
open MeetsSeq MeetsSeq2 MeetsSeq3 SeqRoads2
section
variable {prog : Program} {w : World} {A : Around} {R : Result → Shared → Prop}
theorem ne_loopG (l b : Addr) (N : Nat) (I : Nat → Shared → Prop) (hl : GQ.ListI prog w A (fun e s' => R (.error e) s') l b N I)
    (fin : ∀ s, I N s → R (.ok (.ret (.bool false))) s) (k : Nat) :
    ∀ i : Nat, N - i = k → i ≤ N → ∀ s, I i s →
      wpAny (model prog w) A.in1 (Builtin.«list.__eq__.loop» ⟨[.ref l, .ref b, rawInt i, rawInt 3], []⟩) (GQ.FinOf prog w A R) (fun e s' => R (.error e) s') s := by
  induction k with
  | zero =>
    intro i hk hi s h
    obtain ⟨items, items2, n, n2, hl1, hb1, hs1, hs2, _⟩ := hl _ _ h
    have hi' : i = N := by omega
    have hR : R (.ok (.ret (.bool false))) s := fin s (hi' ▸ h)
    obtain ⟨hp, g, d, tk, os⟩ := s
    wp_walk using wpAny_loadPart' hl1, wpAny_loadPart' hb1
    have hi1 : items[((i : Nat) : Int).toNat]? = none := by simp; omega
    have hi2 : items2[((i : Nat) : Int).toNat]? = none := by simp; omega
    rw [hi1, hi2]
    wp_walk using wpAny_loadPart' hl1, wpAny_loadPart' hb1
    show R (.ok (.ret (.bool (items.size != items2.size)))) _
    rw [hs1, hs2]
    simpa using hR
  | succ k ih =>
    intro i hk hi s h
    obtain ⟨items, items2, n, n2, hl1, hb1, hs1, hs2, turn⟩ := hl _ _ h
    have hlt : i < items.size := by omega
    have hlt2 : i < items2.size := by omega
    have ht := turn hlt hlt2
    obtain ⟨hp, g, d, tk, os⟩ := s
    wp_walk using wpAny_loadPart' hl1, wpAny_loadPart' hb1
    have hi1 : items[((i : Nat) : Int).toNat]? = some items[i] := by simp [hlt]
    have hi2 : items2[((i : Nat) : Int).toNat]? = some items2[i] := by simp [hlt2]
    have hc : ((i : Int) + 1) = ((i + 1 : Nat) : Int) := by omega
    rw [hi1, hi2]
    refine wpAny_bind (wpAny_mono ht (fun r s2 h2 => ?_) fun _ _ x => x)
    obtain ⟨hr, h2⟩ := h2
    subst hr
    have hrec := ih (i + 1) (by omega) (by omega) s2 h2
    obtain ⟨hp2, g2, d2, tk2, os2⟩ := s2
    wp_walk
    rw [hc]
    exact ⟨plainId_quiet plain_eq_loop _, codeAny_builtin entry_eq_loop (by
      rw [Around.under_plainId plain_eq_loop _]
      exact hrec)⟩
theorem list_neG (l b : Addr) (N : Nat) (I : Nat → Shared → Prop) (hl : GQ.ListI prog w A (fun e s' => R (.error e) s') l b N I)
    (fin : ∀ s, I N s → R (.ok (.ret (.bool false))) s) {s : Shared} (h : I 0 s) :
    wpAny (model prog w) A.in1 (Builtin.«list.__ne__» ⟨[.ref l, .ref b], []⟩) (GQ.FinOf prog w A R) (fun e s' => R (.error e) s') s := by
  obtain ⟨items, items2, n, n2, hl1, hb1, hs1, hs2, _⟩ := hl _ _ h
  have hrec := ne_loopG (A := A) (R := R) l b N I hl fin _ 0 rfl (Nat.zero_le _) s h
  obtain ⟨hp, g, d, tk, os⟩ := s
  have f3 := AutoSeq1.sub_list_list
  have hne : ¬ (items.size != items2.size) = true := by simp [hs1, hs2]
  wp_walk using wpAny_loadPart' hl1, wpAny_loadPart' hb1
  exact ⟨plainId_quiet plain_eq_loop _, codeAny_builtin entry_eq_loop (by
    rw [Around.under_plainId plain_eq_loop _]
    exact hrec)⟩
end
section
variable {prog : Program} {w : World} {A : Around} {E : Value → Shared → Prop} {s : Shared}
theorem rc_listNe {l b : Addr} {N : Nat} {Q : Value → Shared → Prop} (hu : A.units < cLine) (I : Nat → Shared → Prop) (hl : GQ.ListI prog w A E l b N I)
    (fin : ∀ s, I N s → Q (.bool false) s) (h : I 0 s) : wpAny (model prog w) A (richCompare .NotEq (.ref l) (.ref b)) Q E s := by
  obtain ⟨items, items2, n, n2, hl1, hb1, _, _, _⟩ := hl _ _ h
  refine wpAny_richCompare_same_room (op := .NotEq) ⟨_, hl1, rfl⟩ ⟨_, hb1, rfl⟩ F.slot_list_ne (GQ.call_here F.slot_list_ne ⟨_, hl1, rfl⟩ F.entry_list_ne (F.args_list_ne_2 _ _) ?_) hu
  exact list_neG (R := wants (fun v s' => v ≠ .notImplemented ∧ Q v s') E) l b N I hl (fun s' q => ⟨(fun x => nomatch x), fin s' q⟩) h
end
open PySem PySem.Spec PyProof.Rows L2
section
variable {X : Cx} {n : Nat} {D : Eqv}
def rNeG (D : Eqv) : R2 := fun x y H Q => DList D x y H ∧ ∀ H', Same H H' → Q (.bl false) H'
theorem op_neG (hD : Mon D) (h : EqG X n D) (hr : Room (n + 1) X.A) : OpR X (compareOp .NotEq) (rNeG D) := by
  intro pins s σ H x y v u Q I rx ry hq
  obtain ⟨⟨a, b, xs, ys, rfl, rfl, ha, hb, p⟩, q⟩ := hq
  cases rx
  cases ry
  show wpAny (model X.prog X.w) X.A (richCompare .NotEq (.ref a) (.ref b)) (EP X pins σ Q) X.xe s
  refine rc_listNe (N := xs.length) hr.units0 (fun _ s' => LoopI X pins σ H s') (fun i s' q => ?_) (fun s' q' => ?_) ⟨H, I, Ext.rfl'⟩
  · obtain ⟨H1, I1, e1⟩ := id q
    obtain ⟨z, its, k, r, e⟩ := I1.hok a _ (e1 _ _ ha)
    obtain ⟨z2, its2, k2, r2, e2⟩ := I1.hok b _ (e1 _ _ hb)
    refine ⟨its.toArray, its2.toArray, k, k2, e, e2, by rw [List.size_toArray, ← r.length], by rw [List.size_toArray, ← r2.length, ← p.1], fun h1 h2 => ?_⟩
    exact turnG hD h ⟨hr, rfl⟩ p r r2 i h1 h2 s' q
  · obtain ⟨H1, I1, e1⟩ := q'
    exact ⟨.bl false, H1, I1, rfl, q H1 e1⟩
theorem op_eqLG (hD : Mon D) (h : EqG X n D) (hr : Room (n + 1) X.A) : OpR X (compareOp .Eq) (fun x y H Q => DList D x y H ∧ ∀ H', Same H H' → Q (.bl true) H') := op_eqG (rcG_list hD h) hr
def DSelf : Eqv := fun x y _ => x = y ∧ ((∃ a, x = .ref a) ∨ ∃ i, x = .int i)
theorem Prs.self {xs : List V} {H : Hp} (h : ∀ x ∈ xs, (∃ a, x = .ref a) ∨ ∃ i, x = .int i) : Prs DSelf xs xs H :=
  ⟨rfl, fun i x y h1 h2 => by rw [h1] at h2; cases h2; exact ⟨rfl, h x (List.mem_of_getElem? h1)⟩⟩
theorem eqG_own {C f : Addr} {sp : Sp} (D : Eqv) (hs : PySem.W.findIn X.K (.ref C) "__eq__" = some (some (.ref f))) (hf : PySem.W.isFn X.K (.ref f) = true) (F : FnR X.prog X.w X.K X.mg X.base (L2.CX X.prog X.w) n f sp)
    (hD : ∀ x y H, D x y H → ∃ a dx vs t, x = .ref a ∧ SlX.Slt H a C dx vs ∧ TyY X.K C y H t ∧ PySem.W.notFirst X.K C t = true ∧ sp [x, y] H (fun v H' => v = .bl true ∧ Ext H H') E0) : EqG X n D := by
  intro A pins s σ H x y u v sb I rx ry d
  obtain ⟨a, dx, vs, t, rfl, ha, hy, hn, hsp⟩ := hD _ _ _ d
  cases (show u = Value.ref a from rx)
  have rc : wpAny (model X.prog X.w) A (richCompare .Eq (.ref a) v) (fun r s' => r = .bool true ∧ ∃ H', Inv X pins σ H' s' ∧ Ext H H') X.xe s := by
    obtain ⟨sl, od, _, J, _⟩ := SlX.slt_inst I ha
    obtain ⟨m, hF⟩ := I.fr
    refine PySem.W.cmp_K (op := .Eq) (tb := t) sb.room.units0 hF I.ok.mod.kin J (tyY_looks I ry hy) hn hs hf ?_
    have e0 : Env0 X.prog X.w X.K X.mg X.base A X.stack s H := by
      have e := I.env0
      exact ⟨by rw [sb.fr]; exact e.frames, e.mod, e.bs, e.bsz, e.funs, e.frf, e.hok, e.bare⟩
    have r2 : Vals [V.ref a, y] [Value.ref a, v] := .cons rfl (.cons ry .nil)
    refine wpAny_call (codeAny_mono (F A X.stack s H [.ref a, v] [.ref a, y] _ E0 sb.room e0 r2 hsp) fun r s' hq => ?_)
    cases r with
    | error e => exact (cx_never hq).elim
    | ok fl =>
      cases fl with
      | ret w =>
        obtain ⟨z, H', I', rz, ez, ex⟩ := I.after hq
        subst ez
        cases rz
        exact ⟨rfl, H', I', ex⟩
      | next => exact False.elim hq
      | brk => exact False.elim hq
      | cont => exact False.elim hq
  by_cases hab : v = .ref a
  · subst hab
    exact SeqAt.EqAt.same (A := A) (s := s) (.ref a) X.prog X.w X.xe _ ⟨rfl, H, I, Ext.rfl'⟩
  · unfold eqBool
    refine wpAny_holding ?_
    refine wpAny_ite_split (fun h => absurd (eq_of_beq h).symm hab) (fun _ => ?_)
    refine wpAny_bind (wpAny_mono rc (fun r s' hv => ?_) fun _ _ x => x)
    obtain ⟨rfl, q⟩ := hv
    exact wpAny_truthy_bool ⟨rfl, q⟩
end
end Wl
set_option Elab.async false
set_option linter.all false
set_option maxRecDepth 100000
set_option maxHeartbeats 4000000
namespace Wl
open PySem PySem.Spec PyProof.Rows L2 He
structure Chn (r r' : R2) (tc : TE) (σ : L2.St) (x y : V) (H : Hp) (Q : VK) : Prop where
  h : r x y H fun z H3 => ∃ k, z = .bl k ∧ (if k = true then tc σ H3 fun w' H4 => r' y w' H4 Q else Q (.bl false) H3)
end Wl
set_option Elab.async false
set_option linter.all false
set_option maxRecDepth 100000
set_option maxHeartbeats 4000000
namespace Wl
open PySem PySem.Spec PyProof.Rows L2 He
abbrev Sut := Addr → Value → Option Addr → TS
def endAs (i : Nat) (D : Ends) : Ends := { nx := fun σ' H' => D.nx (σ'.set i none) H', rt := D.rt, bk := fun σ' H' => D.bk (σ'.set i none) H', ct := fun σ' H' => D.ct (σ'.set i none) H' }
inductive MixOk (X : Cx) : List ExceptHandler → List (Value × Option Nat × Sut) → Prop
  | nil : MixOk X [] []
  | plain {x : Str} {c : Value} {ts : Sut} {b₀ : Stmt} {suite : List Stmt} {np pos' : Pos} {hds : List ExceptHandler} {l : List (Value × Option Nat × Sut)} (hc : Names X x c)
      (hsu : ∀ (a : Addr) (oe : Obj) (cls : Value) (d : Option Addr) (pn : List (Addr × Obj)), Zc cls d oe → (∃ vs, oe.data = .fields vs) → PSs (X.suite a ((a, oe) :: pn)) (b₀ :: suite) (ts a cls d)) (r : MixOk X hds l) :
      MixOk X (.ExceptHandler (some (.Name x np)) none (b₀ :: suite) pos' :: hds) ((c, none, ts) :: l)
  | named {x n : Str} {i : Nat} {c : Value} {ts : Sut} {b₀ : Stmt} {suite : List Stmt} {np pos' : Pos} {hds : List ExceptHandler} {l : List (Value × Option Nat × Sut)} (hN : X.N.Nodup) (hi : X.N[i]? = some n) (hln : X.env.kindOf n = some .local) (hc : Names X x c)
      (hsu : ∀ (a : Addr) (oe : Obj) (cls : Value) (d : Option Addr) (pn : List (Addr × Obj)), Zc cls d oe → (∃ vs, oe.data = .fields vs) → PSs (X.suite a ((a, oe) :: pn)) (b₀ :: suite) (ts a cls d)) (r : MixOk X hds l) :
      MixOk X (.ExceptHandler (some (.Name x np)) (some n) (b₀ :: suite) pos' :: hds) ((c, some i, ts) :: l)
section
variable {X : Cx} {body : List Stmt} {h₀ : ExceptHandler} {hds : List ExceptHandler} {l : List (Value × Option Nat × Sut)} {pos : Pos} {tb : WX → TS} {Wout : WX}
end
section
variable {X : Cx} {CX : CXT} {k i : Nat} {f C : Addr} {sp : Sp} {E : XK} {x : Str} {e : Expr} {es : List Expr} {t : TA} {p pos : Pos}
end
end Wl
set_option Elab.async false
set_option linter.all false
set_option maxRecDepth 100000
set_option maxHeartbeats 4000000
namespace Wl
section
open PySem PySem.SeqAt
open AutoSeq1 (wpAny_loadPart')
open MeetsSeq MeetsSeq2 MeetsSeq3 SeqRoads2
variable {prog : Program} {w : World} {A : Around} {R : Result → Shared → Prop}
theorem tuple_neG (l b : Addr) (xs ys : Array Value) (n n2 : Nat) (dd dd2 : Option Addr) (sl sl2 : Array (Option Value)) (hsz : xs.size = ys.size) (I : Nat → Shared → Prop)
    (turn : ∀ i (h1 : i < xs.size) (h2 : i < ys.size) s, I i s → wpAny (model prog w) A.in1 (eqBool xs[i] ys[i]) (fun r s' => r = true ∧ I (i + 1) s') (fun e s' => R (.error e) s') s)
    (fin : ∀ s, I xs.size s → R (.ok (.ret (.bool false))) s) {s : Shared} (hx : s.heap.get? l = some { cls := .type "tuple", dict := dd, data := .seq xs n, slots := sl }) (hy : s.heap.get? b = some { cls := .type "tuple", dict := dd2, data := .seq ys n2, slots := sl2 }) (h : I 0 s) :
    wpAny (model prog w) A.in1 (Builtin.«tuple.__ne__» ⟨[.ref l, .ref b], []⟩) (GQ.FinOf prog w A R) (fun e s' => R (.error e) s') s := by
  have f2 := AutoSeq1.sub_tuple_tuple
  have hZ : (xs.toList.zip ys.toList).length = xs.size := by simp [hsz]
  have start := h
  obtain ⟨hp, g, d, tk, os⟩ := s
  wp_walk using wpAny_loadPart' hx, wpAny_loadPart' hy, wpAny_forIn_list _ (fun rest b s' => b.1 = none ∧ ∃ i, rest = (xs.toList.zip ys.toList).drop i ∧ i ≤ xs.size ∧ I i s') _
  case h => exact ⟨rfl, 0, rfl, Nat.zero_le _, start⟩
  case turn =>
    rintro ⟨p, q⟩ rest b s' ⟨hb', i, hz, hi, hI⟩
    have hlt : i < (xs.toList.zip ys.toList).length := Nat.lt_of_not_le fun h' => by rw [List.drop_of_length_le h'] at hz; cases hz
    have h1 : i < xs.size := hZ ▸ hlt
    have h2 : i < ys.size := hsz ▸ h1
    rw [List.drop_eq_getElem_cons hlt] at hz
    injection hz with hpq hrest
    have ep : p = xs[i] := by simpa using congrArg Prod.fst hpq
    have eq : q = ys[i] := by simpa using congrArg Prod.snd hpq
    subst ep eq
    refine wpAny_bind (wpAny_mono (turn i h1 h2 s' hI) (fun r s2 q2 => ?_) fun _ _ x => x)
    obtain ⟨hr, q2⟩ := q2
    subst hr
    wp_walk
    exact ⟨rfl, i + 1, hrest, h1, q2⟩
  case fin =>
    rintro ⟨b1, b2⟩ s' ⟨hb', i, hz, hi, hI⟩
    simp only at hb'
    subst hb'
    have hge : xs.size ≤ i := Nat.le_of_not_lt fun h' => by rw [List.drop_eq_getElem_cons (hZ ▸ h')] at hz; cases hz
    have hR : R (.ok (.ret (.bool false))) s' := fin s' ((Nat.le_antisymm hi hge) ▸ hI)
    wp_walk
    simpa [Builtin.Tuple.tupleCompareSizes, hsz] using hR
end
section
open PySem PySem.Spec PyProof.Rows L2 He
variable {X : Cx} {n : Nat} {D : Eqv}
theorem op_neTG (hD : Mon D) (h : EqG X n D) (hr : Room (n + 1) X.A) : OpR X (compareOp .NotEq) (fun x y H Q => DTup X.K D x y H ∧ ∀ H', Same H H' → Q (.bl false) H') := by
  intro pins s σ H x y v u Q I rx ry hq
  obtain ⟨⟨a, b, xs, ys, rfl, rfl, ha, hb, p⟩, q⟩ := hq
  cases rx
  cases ry
  show wpAny (model X.prog X.w) X.A (richCompare .NotEq (.ref a) (.ref b)) (EP X pins σ Q) X.xe s
  obtain ⟨its, r, e, z⟩ := I.tuple ha
  obtain ⟨its2, r2, e2, z2⟩ := I.tuple hb
  have hsz : its.toArray.size = its2.toArray.size := by rw [List.size_toArray, List.size_toArray, ← r.length, ← r2.length]; exact p.1
  obtain ⟨⟨cls, dd, data, sl⟩, ho, hc, n, hd⟩ := id e
  obtain ⟨⟨cls2, dd2, data2, sl2⟩, ho2, hc2, n2, hd2⟩ := id e2
  simp only at hc hd hc2 hd2
  subst hc hd hc2 hd2
  refine wpAny_richCompare_same_room (op := .NotEq) ⟨_, ho, rfl⟩ ⟨_, ho2, rfl⟩ F.slot_tuple_ne (GQ.call_here F.slot_tuple_ne ⟨_, ho, rfl⟩ F.entry_tuple_ne (F.args_tuple_ne_2 _ _) ?_) hr.units0
  refine tuple_neG (R := wants (fun v s' => v ≠ .notImplemented ∧ EP X pins σ Q v s') X.xe) a b _ _ n n2 dd dd2 sl sl2 hsz (fun _ s' => LoopI X pins σ H s') (fun i h1 h2 s' q => turnG hD h ⟨hr, rfl⟩ p r r2 i h1 h2 s' q) (fun s' q' => ?_) ho ho2 ⟨H, I, Ext.rfl'⟩
  obtain ⟨H1, I1, e1⟩ := q'
  exact ⟨(fun z => nomatch z), .bl false, H1, I1, rfl, q H1 e1⟩
theorem op_eqTG (hD : Mon D) (h : EqG X n D) (hr : Room (n + 1) X.A) : OpR X (compareOp .Eq) (fun x y H Q => DTup X.K D x y H ∧ ∀ H', Same H H' → Q (.bl true) H') := op_eqG (rcG_tup hD h) hr
end
open PySem PySem.Spec PyProof.Rows L2 He
def CPowW (i j : Int) : Prop := 0 ≤ j ∧ (Builtin.Int.intBits i : Int) * j ≤ 2 ^ 27
theorem op_powW {X : Cx} : OpR X (binaryOp .Pow) (rI CPowW fun i j => .int (i ^ j.toNat)) := opI fun _ _ _ _ _ _ _ hc q => pow_int hc.1 hc.2 q
section
variable {X : Cx}
def rEqP (K : PySem.W.Frag) (neg : Bool) : R2 := fun x y H Q => ∃ d e, Dp K H x d ∧ Dp K H y e ∧ d.plain = true ∧ e.plain = true ∧ d.depth ≤ 64 ∧ Q (.bl (Bool.xor neg (PyData.eqv d e))) H
theorem op_eqP (hu : X.A.units + 64 < cLine) : OpR X (compareOp .Eq) (rEqP X.K false) := by
  intro pins s σ H x y v u Q I rx ry h
  obtain ⟨d, e, hd, he, pd, pe, hz, q⟩ := h
  obtain ⟨as, r1⟩ := Dp.reads I d x v hd rx
  obtain ⟨bs, r2⟩ := Dp.reads I e y u he ry
  refine SeqAt.eq_plain r1 r2 pd pe (Nat.lt_of_le_of_lt (Nat.add_le_add_left (Nat.le_trans (Nat.min_le_left _ _) hz) _) hu) ⟨.bl _, H, I, rfl, ?_⟩
  rw [Bool.false_xor] at q; exact q
theorem op_neP (hu : X.A.units + 64 < cLine) : OpR X (compareOp .NotEq) (rEqP X.K true) := by
  intro pins s σ H x y v u Q I rx ry h
  obtain ⟨d, e, hd, he, pd, pe, hz, q⟩ := h
  obtain ⟨as, r1⟩ := Dp.reads I d x v hd rx
  obtain ⟨bs, r2⟩ := Dp.reads I e y u he ry
  refine SeqAt.ne_plain r1 r2 pd pe (Nat.lt_of_le_of_lt (Nat.add_le_add_left (Nat.le_trans (Nat.min_le_left _ _) hz) _) hu) ⟨.bl _, H, I, rfl, ?_⟩
  rw [Bool.true_xor] at q; exact q
end
end Wl
set_option Elab.async false
set_option linter.all false
set_option maxRecDepth 100000
set_option maxHeartbeats 4000000
namespace Mi
open PySem PySem.Spec PyProof.Rows L2 He Wl
abbrev NK := NestedKey
inductive D where
  | non | bl (b : Bool) | int (i : Int) | str (x : Str)
  | tup (xs : List D) | lst (xs : List D)
  | dct (ks : List NK) (vs : List D)
  | rat (r : Rat)
  | ins (c : Str) (fs : List Str) (vs : List D)
  | ty (n : String) | gl (x : Str)
  | scr (ns : List Int)
inductive W where
  | d (x : D) | loc (n : Nat) | tup (xs : List W)
inductive O where
  | lst (ws : List W) | dct (ks : List NK) (ws : List W) | ins (c : Str) (fs : List Str) (ws : List W) | fz (x : D) | fzl (ws : List W) | fzd (ks : List NK) (ws : List W)
abbrev Sto := List O
def O.own : O → Bool
  | .fz _ => false
  | .fzl _ => false
  | .fzd _ _ => false
  | _ => true
structure Gx where
  P : Program
  w : World
  K : PySem.W.Frag
abbrev _root_.L2.Cx.gx (X : Cx) : Gx := ⟨X.prog, X.w, X.K⟩

def nkK : Key → NK
  | .inl i => .num i
  | .inr x => .text x
structure DnE where
  k : NK
  q : Addr
  v : V
def DnO (G : Gx) (a : Addr) (es : List DnE) : HO := .ext fun h => es.length ≤ sizeLine ∧ (a == sysModules) = false ∧ (es.map DnE.k).Nodup ∧
  ∃ (us : List Value) (o : Obj) (ar : Array DictEntry) (ep : Nat), Paired (fun (e : DnE) u => RelV e.v u) es us ∧ h.get? a = some o ∧ o.ExactDict ∧ o.data = .dict ar ep ∧
    ar.toList = (es.zip us).map fun p => entryOfKey (nestedKind G.P G.w) (p.1.k, p.1.q, p.2)
mutual
/-- v is the key k -/
def KeyAt (H : Hp) (X : Addr → Prop) : NK → V → Prop
  | .none, v => v = .non
  | .num i, v => v = .int i
  | .text x, v => v = .str x
  | .tup ks, v => ∃ a vs, v = .ref a ∧ ¬ X a ∧ H a = some (.tup vs) ∧ KeysAt H X ks vs
def KeysAt (H : Hp) (X : Addr → Prop) : List NK → List V → Prop
  | [], vs => vs = []
  | k :: ks, vs => ∃ v r, vs = v :: r ∧ KeyAt H X k v ∧ KeysAt H X ks r
end
def tupKd : NK → Bool
  | .tup _ => true
  | _ => false
def flatKd : NK → Bool
  | .num _ => true
  | .text _ => true
  | _ => false
def mixK (ks : List NK) : Bool := !(ks.all tupKd) && !(ks.all flatKd)
def MxO (a : Addr) (ps : List (V × V)) : HO := .ext fun h => ps.length ≤ sizeLine ∧ (a == sysModules) = false ∧ ∃ (o : Obj) (ar : Array DictEntry) (ep : Nat), h.get? a = some o ∧ o.ExactDict ∧ o.data = .dict ar ep ∧ ar.size = ps.length ∧
  ∀ i (hi : i < ar.size), ∃ p, ps[i]? = some p ∧ RelV p.1 ar[i].key ∧ RelV p.2 ar[i].val
def DictAt (G : Gx) (H : Hp) (X : Addr → Prop) (a : Addr) (R : HO → Prop) (ks : List NK) (vs : List V) : Prop :=
  (∃ kvs : List (Key × V), R (.dK kvs) ∧ kvs.map (fun p => nkK p.1) = ks ∧ kvs.map (·.2) = vs) ∨
  (∃ es : List DnE, R (DnO G a es) ∧ es.map DnE.k = ks ∧ es.map DnE.v = vs ∧ ∀ e ∈ es, (∃ l, e.k = .tup l) ∧ e.k.depth ≤ 8 ∧ KeyAt H X e.k (.ref e.q)) ∨
  ∃ ps : List (V × V), R (MxO a ps) ∧ KeysAt H X ks (ps.map (·.1)) ∧ ps.map (·.2) = vs ∧ mixK ks = true

def ModL (K : PySem.W.Frag) (a : Addr) (xs : List V) : Prop := ∃ (o : Obj) (its : Array Value) (n : Nat), K.lookup a = some o ∧ o.cls = .type "list" ∧ o.dict = none ∧ o.data = .seq its n ∧ its.size ≤ sizeLine ∧ Vals xs its.toList
mutual
def Rep (G : Gx) (H : Hp) (X : Addr → Prop) : D → V → Prop
  | .non, v => v = .non
  | .bl b, v => v = .bl b
  | .int i, v => v = .int i
  | .str x, v => v = .str x
  | .ty n, v => v = .ty n
  | .gl x, v => v = .ref (ga G.K x)
  | .rat r, v => ∃ a dx, v = .ref a ∧ ¬ X a ∧ ¬ X dx ∧ SlX.Slt H a (ga G.K "Ratio") dx [some (.int r.den), some (.int r.num)]
  | .tup xs, v => ∃ a vs, v = .ref a ∧ ¬ X a ∧ H a = some (.tup vs) ∧ Reps G H X xs vs
  | .lst xs, v => ∃ a vs, v = .ref a ∧ ¬ X a ∧ H a = some (.lst vs) ∧ Reps G H X xs vs
  | .scr ns, v => ∃ a, v = .ref a ∧ ((¬ X a ∧ ∃ o, H a = some (.frz o (.lst (ns.map V.int)))) ∨ ModL G.K a (ns.map V.int))
  | .dct ks ds, v => ∃ a vs, v = .ref a ∧ ¬ X a ∧ DictAt G H X a (fun u => ∃ o, H a = some (.frz o u)) ks vs ∧ Reps G H X ds vs
  | .ins c fs ds, v => ∃ a dx vs, v = .ref a ∧ ¬ X a ∧ ¬ X dx ∧ H a = some (.ins (ga G.K c) dx (fs.zip vs)) ∧ H dx = some (.own a) ∧ fs.length = vs.length ∧ Reps G H X ds vs
def Reps (G : Gx) (H : Hp) (X : Addr → Prop) : List D → List V → Prop
  | [], vs => vs = []
  | d :: ds, vs => ∃ v r, vs = v :: r ∧ Rep G H X d v ∧ Reps G H X ds r
end
mutual
def RepW (G : Gx) (H : Hp) (X : Addr → Prop) (α : List Addr) : W → V → Prop
  | .d x, v => Rep G H X x v
  | .loc n, v => ∃ a, α[n]? = some a ∧ v = .ref a
  | .tup ws, v => ∃ a vs, v = .ref a ∧ ¬ X a ∧ H a = some (.tup vs) ∧ RepWs G H X α ws vs
def RepWs (G : Gx) (H : Hp) (X : Addr → Prop) (α : List Addr) : List W → List V → Prop
  | [], vs => vs = []
  | d :: ds, vs => ∃ v r, vs = v :: r ∧ RepW G H X α d v ∧ RepWs G H X α ds r
end

structure Stay (X X' : Addr → Prop) (H H' : Hp) : Prop where
  keep : ∀ a o, H a = some o → ¬ X a → H' a = some o
  less : ∀ a o, H a = some o → X' a → X a
theorem Stay.off {X X' : Addr → Prop} {H H' : Hp} (s : Stay X X' H H') {a : Addr} {o : HO} (h : H a = some o) (n : ¬ X a) : ¬ X' a := fun z => n (s.less a o h z)
theorem Stay.rd {X X' : Addr → Prop} {H H' : Hp} (s : Stay X X' H H') {a : Addr} {o : HO} (h : Rd H a o) (n : ¬ X a) : Rd H' a o ∧ ¬ X' a := by
  rcases h with h | ⟨ob, h⟩
  · exact ⟨.inl (s.keep _ _ h n), s.off h n⟩
  · exact ⟨.inr ⟨ob, s.keep _ _ h n⟩, s.off h n⟩
section
variable {G : Gx} {X X' : Addr → Prop} {H H' : Hp} {α α' : List Addr}
mutual
theorem KeyAt.stay (s : Stay X X' H H') : ∀ {k : NK} {v : V}, KeyAt H X k v → KeyAt H' X' k v
  | .none, v, h => by unfold KeyAt at h ⊢; exact h
  | .num i, v, h => by unfold KeyAt at h ⊢; exact h
  | .text x, v, h => by unfold KeyAt at h ⊢; exact h
  | .tup ks, v, h => by
    unfold KeyAt at h ⊢
    obtain ⟨a, vs, e, n, ha, r⟩ := h
    exact ⟨a, vs, e, s.off ha n, s.keep _ _ ha n, KeysAt.stay s r⟩
theorem KeysAt.stay (s : Stay X X' H H') : ∀ {ks : List NK} {vs : List V}, KeysAt H X ks vs → KeysAt H' X' ks vs
  | [], vs, h => by unfold KeysAt at h ⊢; exact h
  | k :: ks, vs, h => by
    unfold KeysAt at h ⊢
    obtain ⟨v, r, e, h1, h2⟩ := h
    exact ⟨v, r, e, KeyAt.stay s h1, KeysAt.stay s h2⟩
end
theorem DictAt.stay (s : Stay X X' H H') {a : Addr} {R R' : HO → Prop} {ks : List NK} {vs : List V} (hR : ∀ o, R o → R' o) (h : DictAt G H X a R ks vs) : DictAt G H' X' a R' ks vs := by
  rcases h with ⟨kvs, h, e⟩ | ⟨es, h, e1, e2, h2⟩ | ⟨ps, h, e1, e2, e3⟩
  · exact .inl ⟨kvs, hR _ h, e⟩
  · exact .inr (.inl ⟨es, hR _ h, e1, e2, fun e he => ⟨(h2 e he).1, (h2 e he).2.1, (h2 e he).2.2.stay s⟩⟩)
  · exact .inr (.inr ⟨ps, hR _ h, e1.stay s, e2, e3⟩)
theorem DictAt.there {a : Addr} {R : HO → Prop} {ks : List NK} {vs : List V} (h : DictAt G H X a R ks vs) : ∃ o, R o := by
  rcases h with ⟨kvs, h, e⟩ | ⟨es, h, e1, e2, h2⟩ | ⟨ps, h, _⟩
  · exact ⟨_, h⟩
  · exact ⟨_, h⟩
  · exact ⟨_, h⟩
theorem slt_stay (s : Stay X X' H H') {a C dx : Addr} {vs : List (Option V)} (n : ¬ X a) (nd : ¬ X dx) (h : SlX.Slt H a C dx vs) : SlX.Slt H' a C dx vs := by
  rcases h with ⟨h, e⟩ | ⟨h, e⟩
  · exact .inl ⟨s.keep _ _ h n, e⟩
  · exact .inr ⟨s.keep _ _ h n, s.keep _ _ e nd⟩
mutual
theorem Rep.stay (s : Stay X X' H H') : ∀ {d : D} {v : V}, Rep G H X d v → Rep G H' X' d v
  | .non, v, h => by unfold Rep at h ⊢; exact h
  | .bl b, v, h => by unfold Rep at h ⊢; exact h
  | .int b, v, h => by unfold Rep at h ⊢; exact h
  | .str b, v, h => by unfold Rep at h ⊢; exact h
  | .ty b, v, h => by unfold Rep at h ⊢; exact h
  | .gl b, v, h => by unfold Rep at h ⊢; exact h
  | .rat r, v, h => by
    unfold Rep at h ⊢
    obtain ⟨a, dx, e, n, nd, z⟩ := h
    refine ⟨a, dx, e, ?_, ?_, slt_stay s n nd z⟩
    · rcases z with ⟨z, _⟩ | ⟨z, _⟩
      · exact s.off z n
      · exact s.off z n
    · rcases z with ⟨z, e⟩ | ⟨z, e⟩
      · cases e
      · exact s.off e nd
  | .tup xs, v, h => by
    unfold Rep at h ⊢
    obtain ⟨a, vs, e, n, ha, r⟩ := h
    exact ⟨a, vs, e, s.off ha n, s.keep _ _ ha n, Reps.stay s r⟩
  | .lst xs, v, h => by
    unfold Rep at h ⊢
    obtain ⟨a, vs, e, n, ha, r⟩ := h
    exact ⟨a, vs, e, s.off ha n, s.keep _ _ ha n, Reps.stay s r⟩
  | .scr ns, v, h => by
    unfold Rep at h ⊢
    obtain ⟨a, e, ⟨n, o, ha⟩ | z⟩ := h
    · exact ⟨a, e, .inl ⟨s.off ha n, o, s.keep _ _ ha n⟩⟩
    · exact ⟨a, e, .inr z⟩
  | .dct ks ds, v, h => by
    unfold Rep at h ⊢
    obtain ⟨a, vs, e, n, ha, r⟩ := h
    obtain ⟨o, ob, ho⟩ := ha.there
    exact ⟨a, vs, e, s.off ho n, ha.stay s (fun o ⟨ob, ho⟩ => ⟨ob, s.keep _ _ ho n⟩), Reps.stay s r⟩
  | .ins c fs ds, v, h => by
    unfold Rep at h ⊢
    obtain ⟨a, dx, vs, e, n, nd, ha, hd, l, r⟩ := h
    exact ⟨a, dx, vs, e, s.off ha n, s.off hd nd, s.keep _ _ ha n, s.keep _ _ hd nd, l, Reps.stay s r⟩
theorem Reps.stay (s : Stay X X' H H') : ∀ {ds : List D} {vs : List V}, Reps G H X ds vs → Reps G H' X' ds vs
  | [], vs, h => by unfold Reps at h ⊢; exact h
  | d :: ds, vs, h => by
    unfold Reps at h ⊢
    obtain ⟨v, r, e, h1, h2⟩ := h
    exact ⟨v, r, e, Rep.stay s h1, Reps.stay s h2⟩
end
mutual
theorem RepW.stay (s : Stay X X' H H') (p : α <+: α') : ∀ {w : W} {v : V}, RepW G H X α w v → RepW G H' X' α' w v
  | .d x, v, h => by unfold RepW at h ⊢; exact h.stay s
  | .loc n, v, h => by
    unfold RepW at h ⊢
    obtain ⟨a, e, r⟩ := h
    obtain ⟨t, rfl⟩ := p
    exact ⟨a, by rw [List.getElem?_append_left (List.getElem?_eq_some_iff.mp e).1]; exact e, r⟩
  | .tup xs, v, h => by
    unfold RepW at h ⊢
    obtain ⟨a, vs, e, n, ha, r⟩ := h
    exact ⟨a, vs, e, s.off ha n, s.keep _ _ ha n, RepWs.stay s p r⟩
theorem RepWs.stay (s : Stay X X' H H') (p : α <+: α') : ∀ {ds : List W} {vs : List V}, RepWs G H X α ds vs → RepWs G H' X' α' ds vs
  | [], vs, h => by unfold RepWs at h ⊢; exact h
  | d :: ds, vs, h => by
    unfold RepWs at h ⊢
    obtain ⟨v, r, e, h1, h2⟩ := h
    exact ⟨v, r, e, RepW.stay s p h1, RepWs.stay s p h2⟩
end

end
def own (α : List Addr) (S : Sto) (a : Addr) : Prop := ∃ (n : Nat) (o : O), α[n]? = some a ∧ S[n]? = some o ∧ o.own = true
def XX (F : Addr → Prop) (α : List Addr) (S : Sto) (a : Addr) : Prop := F a ∨ own α S a
def ObjAt (G : Gx) (H : Hp) (X : Addr → Prop) (α : List Addr) (a : Addr) : O → Prop
  | .lst ws => ∃ vs, H a = some (.lst vs) ∧ RepWs G H X α ws vs
  | .dct ks ws => ∃ vs, DictAt G H X a (fun o => H a = some o) ks vs ∧ RepWs G H X α ws vs
  | .ins c fs ws => ∃ dx vs, H a = some (.ins (ga G.K c) dx (fs.zip vs)) ∧ ¬ X dx ∧ H dx = some (.own a) ∧ fs.length = vs.length ∧ RepWs G H X α ws vs
  | .fz x => Rep G H X x (.ref a)
  | .fzl ws => ∃ vs, ¬ X a ∧ H a = some (.lst vs) ∧ RepWs G H X α ws vs
  | .fzd ks ws => ∃ vs, ¬ X a ∧ DictAt G H X a (fun u => ∃ o, H a = some (.frz o u)) ks vs ∧ RepWs G H X α ws vs
structure Rel (G : Gx) (F : Addr → Prop) (α : List Addr) (S : Sto) (H : Hp) : Prop where
  len : α.length = S.length
  nd : α.Nodup
  fr : ∀ a, F a → a ∉ α
  fd : ∀ a, F a → ∃ o, H a = some o
  ad : ∀ (n : Nat) a, α[n]? = some a → ∃ o, H a = some o
  obj : ∀ (n : Nat) a o, α[n]? = some a → S[n]? = some o → ObjAt G H (XX F α S) α a o
theorem ObjAt.there {G : Gx} {H : Hp} {X : Addr → Prop} {α : List Addr} {a : Addr} {o : O} (h : ObjAt G H X α a o) (ho : o.own = true) : ∃ u, H a = some u := by
  cases o with
  | lst ws => obtain ⟨vs, h, _⟩ := h; exact ⟨_, h⟩
  | dct ks ws => obtain ⟨vs, h, _⟩ := h; obtain ⟨u, h⟩ := h.there; exact ⟨u, h⟩
  | ins c fs ws => obtain ⟨dx, vs, h, _⟩ := h; exact ⟨_, h⟩
  | fz x => cases ho
  | fzl ws => cases ho
  | fzd ks ws => cases ho
structure Stp (α : List Addr) (S : Sto) (H : Hp) (α' : List Addr) (S' : Sto) (H' : Hp) : Prop where
  pre : α <+: α'
  keep : ∀ a o, H a = some o → ¬ own α S a → H' a = some o
  less : ∀ a o, H a = some o → own α' S' a → own α S a
section
variable {G : Gx} {F : Addr → Prop} {α α' α'' : List Addr} {S S' S'' : Sto} {H H' H'' : Hp}
theorem Stp.refl : Stp α S H α S H := ⟨⟨[], by simp⟩, fun _ _ h _ => h, fun _ _ _ h => h⟩
theorem Stp.trans (a : Stp α S H α' S' H') (b : Stp α' S' H' α'' S'' H'') : Stp α S H α'' S'' H'' where
  pre := a.pre.trans b.pre
  keep := fun x o h n => b.keep x o (a.keep x o h n) fun z => n (a.less x o h z)
  less := fun x o h z => Classical.byContradiction fun n => n (a.less x o h (b.less x o (a.keep x o h n) z))
theorem Stp.stay (s : Stp α S H α' S' H') : Stay (XX F α S) (XX F α' S') H H' where
  keep := fun a o h n => s.keep a o h fun z => n (.inr z)
  less := fun a o h z => z.elim .inl fun z => .inr (s.less a o h z)
theorem Stp.same (s : Same H H') : Stp α S H α S H' := ⟨⟨[], by simp⟩, fun a o h _ => s a o h, fun _ _ _ h => h⟩
theorem RepW.stp {w : W} {v : V} (s : Stp α S H α' S' H') (h : RepW G H (XX F α S) α w v) : RepW G H' (XX F α' S') α' w v := h.stay s.stay s.pre
theorem RepWs.stp {w : List W} {v : List V} (s : Stp α S H α' S' H') (h : RepWs G H (XX F α S) α w v) : RepWs G H' (XX F α' S') α' w v := h.stay s.stay s.pre
theorem Rel.own_at (r : Rel G F α S H) {a : Addr} (h : own α S a) : ∃ u, H a = some u := by
  obtain ⟨n, o, h1, h2, h3⟩ := h
  exact (r.obj n a o h1 h2).there h3
theorem Rel.fresh (r : Rel G F α S H) {p : Addr} (n : H p = none) : ¬ XX F α S p := fun z => by
  rcases z with z | z
  · obtain ⟨o, h⟩ := r.fd p z; rw [n] at h; cases h
  · obtain ⟨o, h⟩ := r.own_at z; rw [n] at h; cases h
theorem ObjAt.stay {X X' : Addr → Prop} {a : Addr} {o : O} (s : Stay X X' H H') (p : α <+: α') (k : ∀ u, H a = some u → o.own = true → H' a = some u) (h : ObjAt G H X α a o) : ObjAt G H' X' α' a o := by
  cases o with
  | lst ws => obtain ⟨vs, h, r⟩ := h; exact ⟨vs, k _ h rfl, r.stay s p⟩
  | dct ks ws => obtain ⟨vs, h, r⟩ := h; exact ⟨vs, h.stay s (fun o h => k o h rfl), r.stay s p⟩
  | ins c fs ws => obtain ⟨dx, vs, h, nd, hd, l, r⟩ := h; exact ⟨dx, vs, k _ h rfl, s.off hd nd, s.keep _ _ hd nd, l, r.stay s p⟩
  | fz x => exact Rep.stay s h
  | fzl ws => obtain ⟨vs, n, h, r⟩ := h; exact ⟨vs, s.off h n, s.keep _ _ h n, r.stay s p⟩
  | fzd ks ws =>
    obtain ⟨vs, n, h, r⟩ := h
    have ht : ∃ u, H a = some u := by
      rcases h with ⟨_, ⟨o, h⟩, _⟩ | ⟨_, ⟨o, h⟩, _⟩ | ⟨_, ⟨o, h⟩, _⟩ <;> exact ⟨_, h⟩
    obtain ⟨u, hu⟩ := ht
    exact ⟨vs, s.off hu n, h.stay s (fun _ ⟨o, e⟩ => ⟨o, s.keep _ _ e n⟩), r.stay s p⟩
theorem Rel.same (r : Rel G F α S H) (s : Same H H') : Rel G F α S H' where
  len := r.len
  nd := r.nd
  fr := r.fr
  fd := fun a h => let ⟨o, e⟩ := r.fd a h; ⟨o, s _ _ e⟩
  ad := fun n a h => let ⟨o, e⟩ := r.ad n a h; ⟨o, s _ _ e⟩
  obj := fun n a o h1 h2 => (r.obj n a o h1 h2).stay (Stp.same (α := α) (S := S) s).stay ⟨[], by simp⟩ fun u h _ => s _ _ h
end
abbrev Sl := List (Option W)
structure SlotsR (G : Gx) (H : Hp) (X : Addr → Prop) (α : List Addr) (τ : Sl) (σ : L2.St) : Prop where
  len : τ.length = σ.length
  at_ : ∀ (i : Nat) (w : W), τ[i]? = some (some w) → ∃ v, σ[i]? = some (some v) ∧ RepW G H X α w v
theorem SlotsR.stp {G : Gx} {F : Addr → Prop} {α α' : List Addr} {S S' : Sto} {H H' : Hp} {τ : Sl} {σ : L2.St} (s : Stp α S H α' S' H') (h : SlotsR G H (XX F α S) α τ σ) : SlotsR G H' (XX F α' S') α' τ σ :=
  ⟨h.len, fun i w e => let ⟨v, e1, r⟩ := h.at_ i w e; ⟨v, e1, r.stp s⟩⟩
theorem SlotsR.set {G : Gx} {H : Hp} {X : Addr → Prop} {α : List Addr} {τ : Sl} {σ : L2.St} {i : Nat} {w : W} {v : V} (h : SlotsR G H X α τ σ) (r : RepW G H X α w v) : SlotsR G H X α (τ.set i (some w)) (σ.set i (some v)) := by
  refine ⟨by simp [h.len], fun j w' e => ?_⟩
  by_cases hj : i = j
  · subst hj
    by_cases hl : i < τ.length
    · rw [List.getElem?_set_self hl] at e
      cases e
      exact ⟨v, by rw [List.getElem?_set_self (by rw [← h.len]; exact hl)], r⟩
    · rw [List.getElem?_eq_none (by simp; omega)] at e; cases e
  · rw [List.getElem?_set_ne hj] at e ⊢
    exact h.at_ j w' e
theorem SlotsR.unset {G : Gx} {H : Hp} {X : Addr → Prop} {α : List Addr} {τ : Sl} {σ : L2.St} {i : Nat} {o : Option V} (h : SlotsR G H X α τ σ) : SlotsR G H X α (τ.set i none) (σ.set i o) := by
  refine ⟨by simp [h.len], fun j w' e => ?_⟩
  by_cases hj : i = j
  · subst hj
    by_cases hl : i < τ.length
    · rw [List.getElem?_set_self hl] at e
      cases e
    · rw [List.getElem?_eq_none (by simp; omega)] at e; cases e
  · rw [List.getElem?_set_ne hj] at e ⊢
    exact h.at_ j w' e
inductive Res (β : Type) where
  | ok (x : β) (S : Sto) | ex (c : Str) (fs : List Str) (ws : List W) (S : Sto) | no
def Res.bind {β γ : Type} (r : Res β) (k : β → Sto → Res γ) : Res γ := match r with
  | .ok x S => k x S
  | .ex c fs ws S => .ex c fs ws S
  | .no => .no
@[simp] theorem Res.bind_ok {β γ : Type} (x : β) (S : Sto) (k : β → Sto → Res γ) : (Res.ok x S).bind k = k x S := rfl
@[simp] theorem Res.bind_ex {β γ : Type} (c : Str) (fs : List Str) (ws : List W) (S : Sto) (k : β → Sto → Res γ) : (Res.ex c fs ws S).bind k = .ex c fs ws S := rfl
@[simp] theorem Res.bind_no {β γ : Type} (k : β → Sto → Res γ) : (Res.no : Res β).bind k = .no := rfl
def ExcD (G : Gx) (H : Hp) (X : Addr → Prop) (α : List Addr) (d : Option Addr) (fs : List Str) (ws : List W) : Prop :=
  (d = none ∧ fs = [] ∧ ws = []) ∨ ∃ a vs, d = some a ∧ ¬ X a ∧ H a = some (.xd (fs.zip vs)) ∧ fs.length = vs.length ∧ RepWs G H X α ws vs
abbrev RR (β γ : Type) := Hp → (Addr → Prop) → List Addr → β → γ → Prop
def Fin {β γ : Type} (R : RR β γ) (G : Gx) (F : Addr → Prop) (α : List Addr) (S : Sto) (H : Hp) (Q : γ → Hp → Prop) (E : XK) : Res β → Prop
  | .ok w S' => ∀ α' H' v, Rel G F α' S' H' → Stp α S H α' S' H' → R H' (XX F α' S') α' w v → Q v H'
  | .ex c fs ws S' => ∀ α' H' d, Rel G F α' S' H' → Stp α S H α' S' H' → ExcD G H' (XX F α' S') α' d fs ws → E (.ref (ga G.K c)) d H'
  | .no => False
theorem Fin.stp {β γ : Type} {R : RR β γ} {G : Gx} {F : Addr → Prop} {α α' : List Addr} {S S' : Sto} {H H' : Hp} {Q : γ → Hp → Prop} {E : XK} {r : Res β} (s : Stp α S H α' S' H') (h : Fin R G F α S H Q E r) : Fin R G F α' S' H' Q E r := by
  cases r with
  | ok w S2 => exact fun α2 H2 v a b c => h α2 H2 v a (s.trans b) c
  | ex c fs ws S2 => exact fun α2 H2 v a b c => h α2 H2 v a (s.trans b) c
  | no => exact h
def tM {β γ : Type} (R : RR β γ) (G : Gx) (Wx : WX) (m : Sl → Sto → Res β) : L2.St → Hp → (γ → Hp → Prop) → Prop := fun σ H Q =>
  ∃ F α S τ, Rel G F α S H ∧ SlotsR G H (XX F α S) α τ σ ∧ Fin R G F α S H Q (fun c d H' => Wx c d σ H') (m τ S)
def tK {β δ γ ε : Type} (R1 : RR β δ) (R : RR γ ε) (G : Gx) (Wx : WX) (k : β → Sl → Sto → Res γ) (c : δ) : L2.St → Hp → (ε → Hp → Prop) → Prop := fun σ H Q =>
  ∃ F α S τ b, Rel G F α S H ∧ SlotsR G H (XX F α S) α τ σ ∧ R1 H (XX F α S) α b c ∧ Fin R G F α S H Q (fun c d H' => Wx c d σ H') (k b τ S)
def RStay {β γ : Type} (R : RR β γ) : Prop := ∀ (X X' : Addr → Prop) (H H' : Hp) (α α' : List Addr) b c, Stay X X' H H' → α <+: α' → R H X α b c → R H' X' α' b c
def RP {β γ δ ε : Type} (R1 : RR β γ) (R2 : RR δ ε) : RR (β × δ) (γ × ε) := fun H X α b c => R1 H X α b.1 c.1 ∧ R2 H X α b.2 c.2
abbrev rW (G : Gx) : RR W V := RepW G
abbrev rWs (G : Gx) : RR (List W) (List V) := RepWs G
abbrev rB : RR Bool Bool := fun _ _ _ b c => b = c
theorem stay_W (G : Gx) : RStay (rW G) := fun _ _ _ _ _ _ _ _ s p h => RepW.stay s p h
section
variable {β γ δ ε ζ η : Type} {R1 : RR β γ} {R2 : RR δ ε} {R3 : RR ζ η} {G : Gx} {Wx : WX} {σ : L2.St} {H : Hp}
theorem tM_bind {m : Sl → Sto → Res β} {k : β → Sl → Sto → Res δ} {Q : ε → Hp → Prop} (h : tM R2 G Wx (fun τ S => (m τ S).bind fun b S1 => k b τ S1) σ H Q) : tM R1 G Wx m σ H fun c H1 => tK R1 R2 G Wx k c σ H1 Q := by
  obtain ⟨F, α, S, τ, r, sl, f⟩ := h
  refine ⟨F, α, S, τ, r, sl, ?_⟩
  dsimp only at f
  cases e : m τ S with
  | no => rw [e] at f; exact f
  | ex c fs ws S' => rw [e] at f; exact f
  | ok b S' =>
    rw [e] at f
    exact fun α' H' v r' s' h' => ⟨F, α', S', τ, b, r', sl.stp s', h', Fin.stp s' f⟩
theorem tK_bind {m : Sl → Sto → Res δ} {k : β × δ → Sl → Sto → Res ζ} {c : γ} {Q : η → Hp → Prop} (s1 : RStay R1) (h : tK R1 R3 G Wx (fun b τ S => (m τ S).bind fun b2 S1 => k (b, b2) τ S1) c σ H Q) :
    tM R2 G Wx m σ H fun c2 H1 => tK (RP R1 R2) R3 G Wx k (c, c2) σ H1 Q := by
  obtain ⟨F, α, S, τ, b, r, sl, rb, f⟩ := h
  refine ⟨F, α, S, τ, r, sl, ?_⟩
  dsimp only at f
  cases e : m τ S with
  | no => rw [e] at f; exact f
  | ex c fs ws S' => rw [e] at f; exact f
  | ok b2 S' =>
    rw [e] at f
    exact fun α' H' v r' s' h' => ⟨F, α', S', τ, (b, b2), r', sl.stp s', ⟨s1 _ _ _ _ _ _ _ _ s'.stay s'.pre rb, h'⟩, Fin.stp s' f⟩
theorem tM_mono {m : Sl → Sto → Res β} {Q Q' : γ → Hp → Prop} (h : tM R1 G Wx m σ H Q) (k : ∀ c H, Q c H → Q' c H) : tM R1 G Wx m σ H Q' := by
  obtain ⟨F, α, S, τ, r, sl, f⟩ := h
  refine ⟨F, α, S, τ, r, sl, ?_⟩
  cases e : m τ S with
  | no => rw [e] at f; exact f
  | ex c fs ws S' => rw [e] at f; exact f
  | ok b S' => rw [e] at f; exact fun α' H' v r' s' h' => k _ _ (f α' H' v r' s' h')
theorem tM_then {m : Sl → Sto → Res β} {k : β → Sl → Sto → Res δ} {Q : ε → Hp → Prop} {P : γ → Hp → Prop} (h : tM R2 G Wx (fun τ S => (m τ S).bind fun b S1 => k b τ S1) σ H Q) (q : ∀ c H1, tK R1 R2 G Wx k c σ H1 Q → P c H1) : tM R1 G Wx m σ H P := tM_mono (tM_bind h) q
theorem tK_then {m : Sl → Sto → Res δ} {k : β × δ → Sl → Sto → Res ζ} {c : γ} {Q : η → Hp → Prop} {P : ε → Hp → Prop} (s1 : RStay R1) (h : tK R1 R3 G Wx (fun b τ S => (m τ S).bind fun b2 S1 => k (b, b2) τ S1) c σ H Q)
    (q : ∀ c2 H1, tK (RP R1 R2) R3 G Wx k (c, c2) σ H1 Q → P c2 H1) : tM R2 G Wx m σ H P := tM_mono (tK_bind s1 h) q
end
end Mi
set_option Elab.async false
set_option linter.all false
set_option maxRecDepth 100000
set_option maxHeartbeats 4000000
namespace Mi
open PySem PySem.Spec PyProof.Rows L2 He Wl
abbrev ME := Sl → Sto → Res W
abbrev MA := Sl → Sto → Res (List W)
abbrev MT := Sl → Sto → Res Bool
abbrev tE (X : Cx) (Wx : WX) (m : ME) : TE := tM (rW X.gx) X.gx Wx m
abbrev tAr (X : Cx) (Wx : WX) (m : MA) : TA := tM (rWs X.gx) X.gx Wx m
abbrev tTe (X : Cx) (Wx : WX) (m : MT) : TT := tM rB X.gx Wx m
abbrev EE (X : Cx) (Wx : WX) (e : Expr) (m : ME) : Prop := PE X e (tE X Wx m)
abbrev EA (X : Cx) (Wx : WX) (es : List Expr) (m : MA) : Prop := PA X es (tAr X Wx m)
abbrev ET (X : Cx) (Wx : WX) (e : Expr) (m : MT) : Prop := PT X e (tTe X Wx m)
abbrev EW (X : Cx) (Wx : WX) (e : Expr) (m : MT) : Prop := PW X e (tTe X Wx m)
theorem PE.imp {X : Cx} {e : Expr} {t t' : TE} (h : PE X e t) (k : ∀ σ H Q, t' σ H Q → t σ H Q) : PE X e t' := ⟨fun pins s σ H Q I q => h.run pins s σ H Q I (k σ H Q q)⟩
theorem PT.imp {X : Cx} {e : Expr} {t t' : TT} (h : PT X e t) (k : ∀ σ H Q, t' σ H Q → t σ H Q) : PT X e t' := ⟨fun pins s σ H Q I q => h.run pins s σ H Q I (k σ H Q q)⟩
theorem PW.imp {X : Cx} {e : Expr} {t t' : TT} (h : PW X e t) (k : ∀ σ H Q, t' σ H Q → t σ H Q) : PW X e t' := ⟨fun wh pins s σ H Q I q => h.run wh pins s σ H Q I (k σ H Q q)⟩
theorem PA.imp {X : Cx} {e : List Expr} {t t' : TA} (h : PA X e t) (k : ∀ σ H Q, t' σ H Q → t σ H Q) : PA X e t' := ⟨fun p pins s σ H Q I q => h.run p pins s σ H Q I (k σ H Q q)⟩
theorem PS.imp {X : Cx} {e : Stmt} {t t' : TS} (h : PS X e t) (k : ∀ D σ H, t' D σ H → t D σ H) : PS X e t' := ⟨fun pins s σ H D I q => h.run pins s σ H D I (k D σ H q)⟩
theorem PSs.imp {X : Cx} {e : List Stmt} {t t' : TS} (h : PSs X e t) (k : ∀ D σ H, t' D σ H → t D σ H) : PSs X e t' := ⟨fun pins s σ H D I q => h.run pins s σ H D I (k D σ H q)⟩

section
variable {X : Cx} {Wx : WX} {a b c e : Expr} {es : List Expr} {pos : Pos} {ma mb mc m : ME} {mr : MA}
def vM (i : Nat) : ME := fun τ S => match τ[i]? with
  | some (some w) => .ok w S
  | _ => .no
def cM (x : D) : ME := fun _ S => .ok (.d x) S
theorem tE_ret {H : Hp} {Q : VK} {w : W} {v : V} {F : Addr → Prop} {α : List Addr} {S : Sto} {E : XK} (r : Rel X.gx F α S H) (h : RepW X.gx H (XX F α S) α w v) (f : Fin (rW X.gx) X.gx F α S H Q E (.ok w S)) : Q v H := f α H v r Stp.refl h
theorem me_var {i : Nat} {x : Str} (hN : X.N[i]? = some x) (hv : Vis X.env.scope x) (hd : (x == ("__debug__" : Str)) = false := by decide) (hcd : (x == ("__classdict__" : Str)) = false := by decide) : EE X Wx (.Name x pos) (vM i) := by
  refine PE.imp (pe_var hN hv hd hcd) fun σ H Q ⟨F, α, S, τ, r, sl, f⟩ => ?_
  unfold vM at f
  split at f
  · rename_i w e
    obtain ⟨v, e1, rw'⟩ := sl.at_ i w e
    exact ⟨v, e1, tE_ret r rw' f⟩
  · exact f.elim
theorem me_const {v : V} {x : D} (h : PE X e (tC v)) (hx : ∀ H Y, Rep X.gx H Y x v) : EE X Wx e (cM x) :=
  PE.imp h fun σ H Q ⟨F, α, S, τ, r, sl, f⟩ => tE_ret (w := .d x) r (by unfold RepW; exact hx _ _) f
theorem me_int {i : Int} {j} : EE X Wx (.Constant (.int i) j pos) (cM (.int i)) := me_const pe_int fun _ _ => by unfold Rep; rfl
theorem me_bl {i : Bool} {j} : EE X Wx (.Constant (.bool i) j pos) (cM (.bl i)) := me_const pe_bl fun _ _ => by unfold Rep; rfl
theorem me_non {j} : EE X Wx (.Constant .none j pos) (cM .non) := me_const pe_non fun _ _ => by unfold Rep; rfl
theorem me_str {i : Str} {j} : EE X Wx (.Constant (.str i) j pos) (cM (.str i)) := me_const pe_str fun _ _ => by unfold Rep; rfl
theorem me_cint {i : Int} (h : PE X e (tC (.int i))) : EE X Wx e (cM (.int i)) := me_const h fun _ _ => by unfold Rep; rfl
theorem me_ty {i : String} (h : PE X e (tC (.ty i))) : EE X Wx e (cM (.ty i)) := me_const h fun _ _ => by unfold Rep; rfl
theorem me_gl {x : Str} (h : PE X e (tC (.ref (ga X.K x)))) : EE X Wx e (cM (.gl x)) := me_const h fun _ _ => by unfold Rep; rfl
def aN : MA := fun _ S => .ok [] S
def aC (m : ME) (r : MA) : MA := fun τ S => (m τ S).bind fun w S1 => (r τ S1).bind fun ws S2 => .ok (w :: ws) S2
theorem ma_nil : EA X Wx [] aN := PA.imp pa_nil fun σ H Q ⟨F, α, S, τ, r, sl, f⟩ => f α H [] r Stp.refl (by show RepWs _ _ _ _ [] []; unfold RepWs; rfl)
theorem ma_cons (ha : EE X Wx e m) (hr : EA X Wx es mr) (hs : starEach (e :: es) X.env = (false, eval e X.env) :: starEach es X.env := by rfl) : EA X Wx (e :: es) (aC m mr) := by
  refine PA.imp (pa_cons ha hr hs) fun σ H Q h => ?_
  refine tM_then (R1 := rW X.gx) (k := fun w τ S => (mr τ S).bind fun ws S2 => .ok (w :: ws) S2) h fun v H1 q1 => tK_then (R2 := rWs X.gx) (k := fun p _ S2 => .ok (p.1 :: p.2) S2) (stay_W _) q1 fun vs H2 ⟨F, α, S, τ, ⟨b1, b2⟩, r, sl, ⟨q1, q2⟩, f⟩ => ?_
  exact f α H2 (v :: vs) r Stp.refl (by show RepWs _ _ _ _ _ _; unfold RepWs; exact ⟨v, vs, rfl, q1, q2⟩)
abbrev Pr := Sto → List W → Option (W × Sto)
def run (q : Pr) (ws : List W) (S : Sto) : Res W := match q S ws with
  | some (w, S') => .ok w S'
  | none => .no
def rQ (G : Gx) (q : Pr) (vs : List V) (H : Hp) (Q : VK) : Prop := ∃ F α S ws w S', Rel G F α S H ∧ RepWs G H (XX F α S) α ws vs ∧ q S ws = some (w, S') ∧ ∀ α' H' v, Rel G F α' S' H' → Stp α S H α' S' H' → RepW G H' (XX F α' S') α' w v → Q v H'
theorem rQ_of {G : Gx} {F : Addr → Prop} {α : List Addr} {S : Sto} {H : Hp} {q : Pr} {ws : List W} {vs : List V} {Q : VK} {E : XK} (r : Rel G F α S H) (h : RepWs G H (XX F α S) α ws vs) (f : Fin (rW G) G F α S H Q E (run q ws S)) : rQ G q vs H Q := by
  unfold run at f
  split at f
  · rename_i w S' e
    exact ⟨F, α, S, ws, w, S', r, h, e, f⟩
  · exact f.elim
def orQ (p q : Pr) : Pr := fun S ws => match p S ws with
  | some r => some r
  | none => q S ws
theorem rQ_or {G : Gx} {p q : Pr} {vs : List V} {H : Hp} {Q : VK} (h : rQ G (orQ p q) vs H Q) : rQ G p vs H Q ∨ rQ G q vs H Q := by
  obtain ⟨F, α, S, ws, w, S', r, hw, e, f⟩ := h
  unfold orQ at e
  split at e
  · rename_i z ez
    cases e
    exact .inl ⟨F, α, S, ws, w, S', r, hw, ez, f⟩
  · exact .inr ⟨F, α, S, ws, w, S', r, hw, e, f⟩
def pure1 (p : Sto → W → Option W) : Pr := fun S ws => match ws with
  | [x] => (p S x).map fun w => (w, S)
  | _ => none
def pure2 (p : Sto → W → W → Option W) : Pr := fun S ws => match ws with
  | [x, y] => (p S x y).map fun w => (w, S)
  | _ => none
def pureN (p : Sto → List W → Option W) : Pr := fun S ws => (p S ws).map fun w => (w, S)
theorem RepWs.two {G : Gx} {H : Hp} {Y : Addr → Prop} {α : List Addr} {x y : V} {ws : List W} (h : RepWs G H Y α ws [x, y]) : ∃ a b, ws = [a, b] ∧ RepW G H Y α a x ∧ RepW G H Y α b y := by
  match ws, h with
  | [], h => unfold RepWs at h; cases h
  | [a], h =>
    unfold RepWs at h
    obtain ⟨v, r, e, h1, h2⟩ := h
    unfold RepWs at h2
    cases e; cases h2
  | [a, b], h =>
    unfold RepWs at h
    obtain ⟨v, r, e, h1, h2⟩ := h
    unfold RepWs at h2
    obtain ⟨v', r', e', h1', h2'⟩ := h2
    cases e; cases e'
    exact ⟨a, b, rfl, h1, h1'⟩
  | a :: b :: c :: l, h =>
    unfold RepWs at h
    obtain ⟨v, r, e, h1, h2⟩ := h
    unfold RepWs at h2
    obtain ⟨v', r', e', h1', h2'⟩ := h2
    unfold RepWs at h2'
    obtain ⟨v2, r2, e2, _, _⟩ := h2'
    cases e; cases e'; cases e2
theorem RepWs.one {G : Gx} {H : Hp} {Y : Addr → Prop} {α : List Addr} {x : V} {ws : List W} (h : RepWs G H Y α ws [x]) : ∃ a, ws = [a] ∧ RepW G H Y α a x := by
  match ws, h with
  | [], h => unfold RepWs at h; cases h
  | [a], h =>
    unfold RepWs at h
    obtain ⟨v, r, e, h1, h2⟩ := h
    cases e
    exact ⟨a, rfl, h1⟩
  | a :: b :: l, h =>
    unfold RepWs at h
    obtain ⟨v, r, e, h1, h2⟩ := h
    unfold RepWs at h2
    obtain ⟨v', r', e', h1', h2'⟩ := h2
    cases e; cases e'
theorem RepWs.mk1 {G : Gx} {H : Hp} {Y : Addr → Prop} {α : List Addr} {x : V} {w : W} (h : RepW G H Y α w x) : RepWs G H Y α [w] [x] := by
  unfold RepWs; exact ⟨x, [], rfl, h, by unfold RepWs; rfl⟩
theorem RepWs.mk2 {G : Gx} {H : Hp} {Y : Addr → Prop} {α : List Addr} {x y : V} {w z : W} (h : RepW G H Y α w x) (h' : RepW G H Y α z y) : RepWs G H Y α [w, z] [x, y] := by
  unfold RepWs; exact ⟨x, [y], rfl, h, RepWs.mk1 h'⟩
theorem RepWs.mkC {G : Gx} {H : Hp} {Y : Addr → Prop} {α : List Addr} {x : V} {w : W} {ys : List V} {zs : List W} (h : RepW G H Y α w x) (h' : RepWs G H Y α zs ys) : RepWs G H Y α (w :: zs) (x :: ys) := by
  unfold RepWs; exact ⟨x, ys, rfl, h, h'⟩
theorem rQ_two {G : Gx} {p : Sto → W → W → Option W} {x y : V} {H : Hp} {Q : VK} (h : rQ G (pure2 p) [x, y] H Q) : ∃ F α S wx wy w, Rel G F α S H ∧ RepW G H (XX F α S) α wx x ∧ RepW G H (XX F α S) α wy y ∧ p S wx wy = some w ∧ ∀ H' v, Same H H' → RepW G H' (XX F α S) α w v → Q v H' := by
  obtain ⟨F, α, S, ws, w, S', r, hw, e, f⟩ := h
  obtain ⟨wx, wy, rfl, h1, h2⟩ := hw.two
  unfold pure2 at e
  simp only [Option.map_eq_some_iff, Prod.mk.injEq] at e
  obtain ⟨w', e, rfl, rfl⟩ := e
  exact ⟨F, α, S, wx, wy, w', r, h1, h2, e, fun H' v s h => f α H' v (r.same s) (Stp.same s) h⟩
theorem rQ_one {G : Gx} {p : Sto → W → Option W} {x : V} {H : Hp} {Q : VK} (h : rQ G (pure1 p) [x] H Q) : ∃ F α S wx w, Rel G F α S H ∧ RepW G H (XX F α S) α wx x ∧ p S wx = some w ∧ ∀ H' v, Same H H' → RepW G H' (XX F α S) α w v → Q v H' := by
  obtain ⟨F, α, S, ws, w, S', r, hw, e, f⟩ := h
  obtain ⟨wx, rfl, h1⟩ := hw.one
  unfold pure1 at e
  simp only [Option.map_eq_some_iff, Prod.mk.injEq] at e
  obtain ⟨w', e, rfl, rfl⟩ := e
  exact ⟨F, α, S, wx, w', r, h1, e, fun H' v s h => f α H' v (r.same s) (Stp.same s) h⟩
theorem rQ_many {G : Gx} {p : Sto → List W → Option W} {xs : List V} {H : Hp} {Q : VK} (h : rQ G (pureN p) xs H Q) : ∃ F α S ws w, Rel G F α S H ∧ RepWs G H (XX F α S) α ws xs ∧ p S ws = some w ∧ ∀ H' v, Same H H' → RepW G H' (XX F α S) α w v → Q v H' := by
  obtain ⟨F, α, S, ws, w, S', r, hw, e, f⟩ := h
  unfold pureN at e
  simp only [Option.map_eq_some_iff, Prod.mk.injEq] at e
  obtain ⟨w', e, rfl, rfl⟩ := e
  exact ⟨F, α, S, ws, w', r, hw, e, fun H' v s h => f α H' v (r.same s) (Stp.same s) h⟩
abbrev OpS (X : Cx) (f : Value → Value → Sem Value) (q : Pr) : Prop := OpR X f fun x y H Q => rQ X.gx q [x, y] H Q
abbrev UnS (X : Cx) (f : Value → Sem Value) (q : Pr) : Prop := UnR X f fun x H Q => rQ X.gx q [x] H Q
abbrev CallS (X : Cx) (f : Value) (q : Pr) : Prop := CallR X f fun vs H Q => rQ X.gx q vs H Q
abbrev IxS (X : Cx) (q : Pr) : Prop := IxR X fun x y H Q => rQ X.gx q [x, y] H Q
theorem OpS.or {f : Value → Value → Sem Value} {p q : Pr} (h : OpS X f p) (h' : OpS X f q) : OpS X f (orQ p q) := fun pins s σ H x y v u Q I rx ry z => (rQ_or z).elim (h pins s σ H x y v u Q I rx ry) (h' pins s σ H x y v u Q I rx ry)
theorem UnS.or {f : Value → Sem Value} {p q : Pr} (h : UnS X f p) (h' : UnS X f q) : UnS X f (orQ p q) := fun pins s σ H x v Q I rx z => (rQ_or z).elim (h pins s σ H x v Q I rx) (h' pins s σ H x v Q I rx)
theorem CallS.or {f : Value} {p q : Pr} (h : CallS X f p) (h' : CallS X f q) : CallS X f (orQ p q) := fun pins s σ H xs us Q I rx z => (rQ_or z).elim (h pins s σ H xs us Q I rx) (h' pins s σ H xs us Q I rx)
theorem IxS.or {p q : Pr} (h : IxS X p) (h' : IxS X q) : IxS X (orQ p q) := fun va sl pins s σ H x y v u Q I rx ry z hs => (rQ_or z).elim (fun z => h va sl pins s σ H x y v u Q I rx ry z hs) (fun z => h' va sl pins s σ H x y v u Q I rx ry z hs)
def oM (q : Pr) (a b : ME) : ME := fun τ S => (a τ S).bind fun x S1 => (b τ S1).bind fun y S2 => run q [x, y] S2
def uM (q : Pr) (a : ME) : ME := fun τ S => (a τ S).bind fun x S1 => run q [x] S1
def callM (q : Pr) (as : MA) : ME := fun τ S => (as τ S).bind fun ws S1 => run q ws S1
theorem tOp_of {q : Pr} {σ : L2.St} {H : Hp} {Q : VK} (h : tE X Wx (oM q ma mb) σ H Q) : tOp (fun x y H Q => rQ X.gx q [x, y] H Q) (tE X Wx ma) (tE X Wx mb) σ H Q := by
  refine tM_then (R1 := rW X.gx) (k := fun x τ S1 => (mb τ S1).bind fun y S2 => run q [x, y] S2) h fun v H1 q1 => tK_then (R2 := rW X.gx) (k := fun p _ S2 => run q [p.1, p.2] S2) (stay_W _) q1 fun vs H2 ⟨F, α, S, τ, ⟨b1, b2⟩, r, sl, ⟨q1, q2⟩, f⟩ => ?_
  exact rQ_of r (RepWs.mk2 q1 q2) f
theorem tUn_of {q : Pr} {σ : L2.St} {H : Hp} {Q : VK} (h : tE X Wx (uM q ma) σ H Q) : tUn (fun x H Q => rQ X.gx q [x] H Q) (tE X Wx ma) σ H Q := by
  exact tM_then (R1 := rW X.gx) (k := fun x τ S1 => run q [x] S1) h fun v H1 ⟨F, α, S, τ, b1, r, sl, q1, f⟩ => rQ_of r (RepWs.mk1 q1) f
theorem me_op {op : Operator} {q : Pr} (ho : OpS X (binaryOp op) q) (ha : EE X Wx a ma) (hb : EE X Wx b mb) : EE X Wx (.BinOp a op b pos) (oM q ma mb) := PE.imp (pe_op ho ha hb) fun _ _ _ h => tOp_of h
theorem me_un {op : UnaryOp} {q : Pr} (ho : UnS X (unaryOp op) q) (ha : EE X Wx a ma) : EE X Wx (.UnaryOp op a pos) (uM q ma) := PE.imp (pe_un ho ha) fun _ _ _ h => tUn_of h
theorem me_cmp {op : CmpOp} {q : Pr} (ho : OpS X (compareOp op) q) (ha : EE X Wx a ma) (hb : EE X Wx b mb) (hm : behindInMarks op b = false) : EE X Wx (.Compare a [op] [b] pos) (oM q ma mb) := PE.imp (pe_cmpR ho ha hb hm) fun _ _ _ h => tOp_of h
theorem me_ix {q : Pr} (hr : IxS X q) (ha : EE X Wx a ma) (hb : EE X Wx b mb) (hs : PlainIx b) : EE X Wx (.Subscript a b pos) (oM q ma mb) := PE.imp (pe_ix hr ha hb hs) fun _ _ _ h => tOp_of h
theorem tCB_of {q : Pr} {σ : L2.St} {H : Hp} {Q : VK} (h : tE X Wx (callM q mr) σ H Q) : tCB (fun vs H Q => rQ X.gx q vs H Q) (tAr X Wx mr) σ H Q := by
  exact tM_then (R1 := rWs X.gx) (k := fun x τ S1 => run q x S1) h fun v H1 ⟨F, α, S, τ, b1, r, sl, q1, f⟩ => rQ_of r q1 f
theorem me_callB {x : Str} {p : Pos} {id : String} {q : Pr} (hc : CallS X (.builtin id) q) (hg : Gl X x) (hm : X.mg x = none) (hv : bootBuiltins x = some (.builtin id)) (ha : EA X Wx (e :: es) mr) (hn : x ≠ "__name__" := by decide) (hdb : (x == ("__debug__" : Str)) = false := by decide)
    (he : starEach (e :: es) X.env = (false, eval e X.env) :: starEach es X.env := by rfl) (hpl : (backTo pos (starEach es X.env)).any (·.1) = false := by rfl) : EE X Wx (.Call (.Name x p) (e :: es) [] pos) (callM q mr) :=
  PE.imp (pe_callB hc hg hm hv ha hn hdb he hpl) fun _ _ _ h => tCB_of h
theorem me_callTy {x : Str} {p : Pos} {T : String} {q : Pr} (hc : CallS X (.type T) q) (hg : Gl X x) (hm : X.mg x = none) (hv : bootBuiltins x = some (.type T)) (ha : EA X Wx (e :: es) mr) (hn : x ≠ "__name__" := by decide) (hdb : (x == ("__debug__" : Str)) = false := by decide)
    (he : starEach (e :: es) X.env = (false, eval e X.env) :: starEach es X.env := by rfl) (hpl : (backTo pos (starEach es X.env)).any (·.1) = false := by rfl) : EE X Wx (.Call (.Name x p) (e :: es) [] pos) (callM q mr) :=
  PE.imp (pe_callTy hc hg hm hv ha hn hdb he hpl) fun _ _ _ h => tCB_of h

def tsM (m : ME) : MT := fun τ S => (m τ S).bind fun w S1 => match w with
  | .d (.bl b) => .ok b S1
  | _ => .no
def ntM (m : MT) : MT := fun τ S => (m τ S).bind fun b S1 => .ok (!b) S1
def anM (m n : MT) : MT := fun τ S => (m τ S).bind fun b S1 => if b = true then n τ S1 else .ok false S1
def orM (m n : MT) : MT := fun τ S => (m τ S).bind fun b S1 => if b = true then .ok true S1 else n τ S1
theorem rep_bl {G : Gx} {H : Hp} {Y : Addr → Prop} (b : Bool) : Rep G H Y (.bl b) (.bl b) := by unfold Rep; rfl
theorem rep_int {G : Gx} {H : Hp} {Y : Addr → Prop} (b : Int) : Rep G H Y (.int b) (.int b) := by unfold Rep; rfl
theorem rep_str {G : Gx} {H : Hp} {Y : Addr → Prop} (b : Str) : Rep G H Y (.str b) (.str b) := by unfold Rep; rfl
theorem rep_non {G : Gx} {H : Hp} {Y : Addr → Prop} : Rep G H Y .non .non := by unfold Rep; rfl
theorem rw_d {G : Gx} {H : Hp} {Y : Addr → Prop} {α : List Addr} {x : D} {v : V} (h : Rep G H Y x v) : RepW G H Y α (.d x) v := by unfold RepW; exact h
theorem tTest_of {σ : L2.St} {H : Hp} {Q : Bool → Hp → Prop} (h : tTe X Wx (tsM m) σ H Q) : tE X Wx m σ H fun x H' => ∃ k, x = .bl k ∧ Q k H' := by
  refine tM_then (R1 := rW X.gx) (m := m) (k := fun w τ S1 => match w with
    | .d (.bl b) => .ok b S1
    | _ => .no) h fun v H1 ⟨F, α, S, τ, b1, r, sl, q1, f⟩ => ?_
  dsimp only at f
  split at f
  · rename_i b
    unfold RepW Rep at q1
    exact ⟨b, q1, f α H1 b r Stp.refl rfl⟩
  · exact f.elim
theorem mt_cmp {op : CmpOp} {q : Pr} (ho : OpS X (compareOp op) q) (ha : EE X Wx a ma) (hb : EE X Wx b mb) (hm : behindInMarks op b = false) : ET X Wx (.Compare a [op] [b] pos) (tsM (oM q ma mb)) :=
  PT.imp (pt_cmpR ho ha hb hm) fun σ H Q h => by
    exact tOp_of (tTest_of h)
theorem mt_val (h : EE X Wx e m) (he : ∀ whole, isTrue e X.env whole = (do let v ← whole; standAt e.pos; holding [v] (truthy v)) := by intro _; rfl) : ET X Wx e (tsM m) :=
  PT.imp (pt_val h he) fun σ H Q h => tTest_of h
variable {na nb : MT}
theorem tTe_bind {n' : Bool → MT} {σ : L2.St} {H : Hp} {Q : Bool → Hp → Prop} (h : tTe X Wx (fun τ S => (na τ S).bind fun b S1 => n' b τ S1) σ H Q) : tTe X Wx na σ H fun c H1 => tTe X Wx (n' c) σ H1 Q :=
  tM_then (R1 := rB) (k := fun b τ S1 => n' b τ S1) h fun v H1 ⟨F, α, S, τ, b1, r, sl, q1, f⟩ => by cases q1; exact ⟨F, α, S, τ, r, sl, f⟩
theorem tTe_ret {b : Bool} {σ : L2.St} {H : Hp} {Q : Bool → Hp → Prop} (h : tTe X Wx (fun _ S => .ok b S) σ H Q) : Q b H := by
  obtain ⟨F, α, S, τ, r, sl, f⟩ := h
  exact f α H b r Stp.refl rfl
theorem mt_not (ha : ET X Wx a na) : ET X Wx (.UnaryOp .Not a pos) (ntM na) := PT.imp (pt_not ha) fun σ H Q h => tM_mono (tTe_bind (n' := fun b _ S1 => .ok (!b) S1) h) fun b H' q => tTe_ret q
theorem mw_and1 (ha : ET X Wx a na) : EW X Wx (.BoolOp .And [a] pos) na := pw_and1 ha
theorem mw_or1 (ha : ET X Wx a na) : EW X Wx (.BoolOp .Or [a] pos) na := pw_or1 ha
theorem mw_and {rest : List Expr} (ha : ET X Wx a na) (hb : EW X Wx (.BoolOp .And (b :: rest) pos) nb) : EW X Wx (.BoolOp .And (a :: b :: rest) pos) (anM na nb) :=
  PW.imp (pw_and ha hb) fun σ H Q h => tM_mono (tTe_bind (n' := fun b τ S1 => if b = true then nb τ S1 else .ok false S1) h) fun c H' q => by
    cases c with
    | true => simpa using q
    | false => simpa using tTe_ret (b := false) (by simpa using q)
theorem mw_or {rest : List Expr} (ha : ET X Wx a na) (hb : EW X Wx (.BoolOp .Or (b :: rest) pos) nb) : EW X Wx (.BoolOp .Or (a :: b :: rest) pos) (orM na nb) :=
  PW.imp (pw_or ha hb) fun σ H Q h => tM_mono (tTe_bind (n' := fun b τ S1 => if b = true then .ok true S1 else nb τ S1) h) fun c H' q => by
    cases c with
    | false => simpa using q
    | true => simpa using tTe_ret (b := true) (by simpa using q)
theorem tE_bind {k : W → ME} {σ : L2.St} {H : Hp} {Q : VK} (h : tE X Wx (fun τ S => (m τ S).bind fun w S1 => k w τ S1) σ H Q) : tE X Wx m σ H fun x H1 => ∃ w, (∃ F α S τ, Rel X.gx F α S H1 ∧ SlotsR X.gx H1 (XX F α S) α τ σ ∧ RepW X.gx H1 (XX F α S) α w x) ∧ tE X Wx (k w) σ H1 Q :=
  tM_then (R1 := rW X.gx) (k := fun w τ S1 => k w τ S1) h fun v H1 ⟨F, α, S, τ, b1, r, sl, q1, f⟩ => ⟨b1, ⟨F, α, S, τ, r, sl, q1⟩, F, α, S, τ, r, sl, f⟩
theorem tE_no {σ : L2.St} {H : Hp} {Q : VK} (h : tE X Wx (fun _ _ => .no) σ H Q) : False := by
  obtain ⟨F, α, S, τ, r, sl, f⟩ := h
  exact f
def byM (m : ME) (y n : ME) : ME := fun τ S => (m τ S).bind fun w S1 => (match w with
  | .d (.bl true) => y
  | .d (.bl false) => n
  | _ => fun _ _ => .no) τ S1
theorem byM_of {y n : ME} {σ : L2.St} {H : Hp} {Q : VK} (h : tE X Wx (byM m y n) σ H Q) : tE X Wx m σ H fun x H1 => ∃ c, x = .bl c ∧ if c = true then tE X Wx y σ H1 Q else tE X Wx n σ H1 Q := by
  refine tM_mono (tE_bind (k := fun w => match w with
    | .d (.bl true) => y
    | .d (.bl false) => n
    | _ => fun _ _ => .no) h) fun x H' ⟨w, ⟨F, α, S, τ, r, sl, rw'⟩, q⟩ => ?_
  split at q
  · unfold RepW Rep at rw'; exact ⟨true, rw', by simpa using q⟩
  · unfold RepW Rep at rw'; exact ⟨false, rw', by simpa using q⟩
  · exact (tE_no q).elim
theorem tE_c {x : D} {v : V} {σ : L2.St} {H : Hp} {Q : VK} (hx : ∀ H Y, Rep X.gx H Y x v) (h : tE X Wx (cM x) σ H Q) : Q v H := by
  obtain ⟨F, α, S, τ, r, sl, f⟩ := h
  exact tE_ret (w := .d x) r (by unfold RepW; exact hx _ _) f
theorem me_one {op} (h : EE X Wx a m) : EE X Wx (.BoolOp op [a] pos) m := pe_one h
theorem me_and {rest : List Expr} (ha : EE X Wx a ma) (hb : EE X Wx (.BoolOp .And (b :: rest) pos) mb) : EE X Wx (.BoolOp .And (a :: b :: rest) pos) (byM ma mb (cM (.bl false))) :=
  PE.imp (pe_and ha hb) fun σ H Q h => tM_mono (byM_of h) fun x H' ⟨c, e, q⟩ => ⟨c, e, by
    cases c with
    | true => simpa using q
    | false => exact tE_c (fun _ _ => rep_bl false) (by simpa using q)⟩
theorem me_or {rest : List Expr} (ha : EE X Wx a ma) (hb : EE X Wx (.BoolOp .Or (b :: rest) pos) mb) : EE X Wx (.BoolOp .Or (a :: b :: rest) pos) (byM ma (cM (.bl true)) mb) :=
  PE.imp (pe_or ha hb) fun σ H Q h => tM_mono (byM_of h) fun x H' ⟨c, e, q⟩ => ⟨c, e, by
    cases c with
    | false => simpa using q
    | true => exact tE_c (fun _ _ => rep_bl true) (by simpa using q)⟩
theorem me_not (ha : EE X Wx a ma) : EE X Wx (.UnaryOp .Not a pos) (byM ma (cM (.bl false)) (cM (.bl true))) :=
  PE.imp (pe_not ha) fun σ H Q h => tM_mono (byM_of h) fun x H' ⟨c, e, q⟩ => ⟨c, e, by
    cases c with
    | false => exact tE_c (fun _ _ => rep_bl true) (by simpa using q)
    | true => exact tE_c (fun _ _ => rep_bl false) (by simpa using q)⟩
def ifM (t : MT) (y n : ME) : ME := fun τ S => (t τ S).bind fun b S1 => if b = true then y τ S1 else n τ S1
theorem tT_bind {k : Bool → ME} {σ : L2.St} {H : Hp} {Q : VK} (h : tE X Wx (fun τ S => (na τ S).bind fun w S1 => k w τ S1) σ H Q) : tTe X Wx na σ H fun x H1 => tE X Wx (k x) σ H1 Q :=
  tM_then (R1 := rB) (k := fun b τ S1 => k b τ S1) h fun v H1 ⟨F, α, S, τ, b1, r, sl, q1, f⟩ => by cases q1; exact ⟨F, α, S, τ, r, sl, f⟩
theorem me_if (hc : ET X Wx c na) (ha : EE X Wx a ma) (hb : EE X Wx b mb) : EE X Wx (.IfExp c a b pos) (ifM na ma mb) :=
  PE.imp (pe_ifExp hc ha hb) fun σ H Q h => tM_mono (tT_bind (k := fun b τ S1 => if b = true then ma τ S1 else mb τ S1) h) fun c H' q => by
    cases c <;> simpa using q
def chM (p q : Pr) (a b c : ME) : ME := fun τ S => (a τ S).bind fun x S1 => (b τ S1).bind fun y S2 => (run p [x, y] S2).bind fun z S3 => match z with
  | .d (.bl true) => (c τ S3).bind fun u S4 => run q [y, u] S4
  | .d (.bl false) => .ok (.d (.bl false)) S3
  | _ => .no
end
end Mi
set_option Elab.async false
set_option linter.all false
set_option maxRecDepth 100000
set_option maxHeartbeats 4000000
namespace Mi
open PySem PySem.Spec PyProof.Rows L2 He Wl
inductive Out where
  | nx (τ : Sl) (S : Sto) | rt (w : W) (S : Sto) | bk (τ : Sl) (S : Sto) | ct (τ : Sl) (S : Sto) | ex (c : Str) (fs : List Str) (ws : List W) (τ : Sl) (S : Sto) | no
abbrev MS := Sl → Sto → Out
def FinS (G : Gx) (F : Addr → Prop) (α : List Addr) (S : Sto) (H : Hp) (D : Ends) (Wx : WX) : Out → Prop
  | .nx τ S' => ∀ α' H' σ, Rel G F α' S' H' → Stp α S H α' S' H' → SlotsR G H' (XX F α' S') α' τ σ → D.nx σ H'
  | .rt w S' => ∀ α' H' v, Rel G F α' S' H' → Stp α S H α' S' H' → RepW G H' (XX F α' S') α' w v → D.rt v H'
  | .bk τ S' => ∀ α' H' σ, Rel G F α' S' H' → Stp α S H α' S' H' → SlotsR G H' (XX F α' S') α' τ σ → D.bk σ H'
  | .ct τ S' => ∀ α' H' σ, Rel G F α' S' H' → Stp α S H α' S' H' → SlotsR G H' (XX F α' S') α' τ σ → D.ct σ H'
  | .ex c fs ws τ S' => ∀ α' H' d σ, Rel G F α' S' H' → Stp α S H α' S' H' → SlotsR G H' (XX F α' S') α' τ σ → ExcD G H' (XX F α' S') α' d fs ws → Wx (.ref (ga G.K c)) d σ H'
  | .no => False
theorem FinS.stp {G : Gx} {F : Addr → Prop} {α α' : List Addr} {S S' : Sto} {H H' : Hp} {D : Ends} {Wx : WX} {o : Out} (s : Stp α S H α' S' H') (h : FinS G F α S H D Wx o) : FinS G F α' S' H' D Wx o := by
  cases o with
  | nx τ S2 => exact fun α2 H2 v a b c => h α2 H2 v a (s.trans b) c
  | rt τ S2 => exact fun α2 H2 v a b c => h α2 H2 v a (s.trans b) c
  | bk τ S2 => exact fun α2 H2 v a b c => h α2 H2 v a (s.trans b) c
  | ct τ S2 => exact fun α2 H2 v a b c => h α2 H2 v a (s.trans b) c
  | ex c fs ws τ S2 => exact fun α2 H2 d σ a b c e => h α2 H2 d σ a (s.trans b) c e
  | no => exact h
abbrev tS (X : Cx) (Wx : WX) (m : MS) : TS := fun D σ H => ∃ F α S τ, Rel X.gx F α S H ∧ SlotsR X.gx H (XX F α S) α τ σ ∧ FinS X.gx F α S H D Wx (m τ S)
abbrev ES (X : Cx) (Wx : WX) (st : Stmt) (m : MS) : Prop := PS X st (tS X Wx m)
abbrev ESs (X : Cx) (Wx : WX) (st : List Stmt) (m : MS) : Prop := PSs X st (tS X Wx m)
def Res.out {β : Type} (r : Res β) (τ : Sl) (k : β → Sto → Out) : Out := match r with
  | .ok x S => k x S
  | .ex c fs ws S => .ex c fs ws τ S
  | .no => .no
@[simp] theorem Res.out_ok {β : Type} (x : β) (S : Sto) (τ : Sl) (k : β → Sto → Out) : (Res.ok x S).out τ k = k x S := rfl
@[simp] theorem Res.out_ex {β : Type} (c : Str) (fs : List Str) (ws : List W) (S : Sto) (τ : Sl) (k : β → Sto → Out) : (Res.ex c fs ws S : Res β).out τ k = .ex c fs ws τ S := rfl
@[simp] theorem Res.out_no {β : Type} (τ : Sl) (k : β → Sto → Out) : (Res.no : Res β).out τ k = .no := rfl
section
variable {X : Cx} {Wx : WX} {st : Stmt} {rest : List Stmt} {a b c e tg : Expr} {pos : Pos} {m ma mb : ME} {s1 s2 : MS} {t : MT}
theorem tS_then {β γ : Type} {R : RR β γ} {m : Sl → Sto → Res β} {k : β → Sl → Sto → Out} {D : Ends} {σ : L2.St} {H : Hp} {P : γ → Hp → Prop} (h : tS X Wx (fun τ S => (m τ S).out τ fun b S1 => k b τ S1) D σ H)
    (q : ∀ c H1 F α S τ b, Rel X.gx F α S H1 → SlotsR X.gx H1 (XX F α S) α τ σ → R H1 (XX F α S) α b c → FinS X.gx F α S H1 D Wx (k b τ S) → P c H1) : tM R X.gx Wx m σ H P := by
  obtain ⟨F, α, S, τ, r, sl, f⟩ := h
  refine ⟨F, α, S, τ, r, sl, ?_⟩
  dsimp only at f
  cases em : m τ S with
  | no => rw [em] at f; exact f
  | ex c fs ws S' => rw [em] at f; exact fun α' H' d r' s' h' => f α' H' d σ r' s' (sl.stp s') h'
  | ok b S' => rw [em] at f; exact fun α' H' v r' s' h' => q v H' F α' S' τ b r' (sl.stp s') h' (FinS.stp s' f)
def seqS (a b : MS) : MS := fun τ S => match a τ S with
  | .nx τ1 S1 => b τ1 S1
  | o => o
theorem ms_nil : ESs X Wx [] (fun τ S => .nx τ S) := PSs.imp pss_nil fun D σ H ⟨F, α, S, τ, r, sl, f⟩ => f α H σ r Stp.refl sl
theorem ms_cons (h1 : ES X Wx st s1) (h2 : ESs X Wx rest s2) : ESs X Wx (st :: rest) (seqS s1 s2) := PSs.imp (pss_cons h1 h2) fun D σ H ⟨F, α, S, τ, r, sl, f⟩ => by
  refine ⟨F, α, S, τ, r, sl, ?_⟩
  unfold seqS at f
  cases em : s1 τ S with
  | nx τ' S' => rw [em] at f; exact fun α' H' σ' r' s' sl' => ⟨F, α', S', τ', r', sl', FinS.stp s' f⟩
  | rt w S' => rw [em] at f; exact f
  | bk τ' S' => rw [em] at f; exact f
  | ct τ' S' => rw [em] at f; exact f
  | ex c fs ws τ' S' => rw [em] at f; exact f
  | no => rw [em] at f; exact f
theorem ms_one (h1 : ES X Wx st s1) : ESs X Wx [st] s1 := pss_one h1
def exS (m : ME) : MS := fun τ S => (m τ S).out τ fun _ S1 => .nx τ S1
theorem ms_expr (he : EE X Wx e m) (hs : swapsWith e none pos.line X.env = pure false := by rfl) : ES X Wx (.Expr e pos) (exS m) := PS.imp (ps_expr he hs) fun D σ H h =>
  tS_then (R := rW X.gx) (k := fun _ τ S1 => .nx τ S1) h fun v H1 F α S τ w r sl rw' f => f α H1 σ r Stp.refl sl
def rtS (m : ME) : MS := fun τ S => (m τ S).out τ fun w S1 => .rt w S1
theorem ms_ret (he : EE X Wx e m) : ES X Wx (.Return (some e) pos) (rtS m) := PS.imp (ps_ret he) fun D σ H h =>
  tS_then (R := rW X.gx) (k := fun w τ S1 => .rt w S1) h fun v H1 F α S τ w r sl rw' f => f α H1 v r Stp.refl rw'
def ifS (t : MT) (y n : MS) : MS := fun τ S => (t τ S).out τ fun b S1 => if b = true then y τ S1 else n τ S1
theorem ms_if {x y : List Stmt} (hc : ET X Wx c t) (ha : ESs X Wx x s1) (hb : ESs X Wx y s2) : ES X Wx (.If c x y pos) (ifS t s1 s2) := PS.imp (ps_if hc ha hb) fun D σ H h =>
  tS_then (R := rB) (k := fun b τ S1 => if b = true then s1 τ S1 else s2 τ S1) h fun v H1 F α S τ w r sl rw' f => by
    cases rw'
    cases v with
    | true => exact ⟨F, α, S, τ, r, sl, by simpa using f⟩
    | false => exact ⟨F, α, S, τ, r, sl, by simpa using f⟩
abbrev MG := W → Sl → Sto → Option (Sl × Sto)
def tGo (G : Gx) (us : List Nat) (g : MG) : TG := fun v σ H Q => ∃ F α S τ w τ' S', Rel G F α S H ∧ SlotsR G H (XX F α S) α τ σ ∧ RepW G H (XX F α S) α w v ∧ g w τ S = some (τ', S') ∧
  ∀ α' H' σ', Rel G F α' S' H' → Stp α S H α' S' H' → SlotsR G H' (XX F α' S') α' τ' σ' → wipe σ' us = wipe σ us → Q σ' H'
abbrev EG (X : Cx) (us : List Nat) (tg : Expr) (g : MG) : Prop := PG X tg (tGo X.gx us g)
abbrev MGs := List W → Sl → Sto → Option (Sl × Sto)
def tGs (G : Gx) (us : List Nat) (g : MGs) : TGs := fun v σ H Q => ∃ F α S τ w τ' S', Rel G F α S H ∧ SlotsR G H (XX F α S) α τ σ ∧ RepWs G H (XX F α S) α w v ∧ g w τ S = some (τ', S') ∧
  ∀ α' H' σ', Rel G F α' S' H' → Stp α S H α' S' H' → SlotsR G H' (XX F α' S') α' τ' σ' → wipe σ' us = wipe σ us → Q σ' H'
abbrev EGs (X : Cx) (us : List Nat) (tg : List Expr) (g : MGs) : Prop := PGs X tg (tGs X.gx us g)
theorem PG.imp {tg : Expr} {t t' : TG} (h : PG X tg t) (k : ∀ v σ H Q, t' v σ H Q → t v σ H Q) : PG X tg t' := ⟨fun pins s σ H v u Q I r q => h.run pins s σ H v u Q I r (k v σ H Q q)⟩
theorem PGs.imp {tg : List Expr} {t t' : TGs} (h : PGs X tg t) (k : ∀ v σ H Q, t' v σ H Q → t v σ H Q) : PGs X tg t' := ⟨fun pins s σ H v u Q I r q => h.run pins s σ H v u Q I r (k v σ H Q q)⟩
theorem wipe_get (σ : L2.St) : ∀ (us : List Nat) (j : Nat), (wipe σ us)[j]? = if j ∈ us then (if j < σ.length then some none else none) else σ[j]?
  | [], j => by simp [wipe]
  | u :: us, j => by
    unfold wipe
    rw [List.getElem?_set, wipe_length, wipe_get σ us j]
    by_cases h : u = j
    · subst h; simp
    · have h' : ¬ j = u := fun e => h e.symm
      simp [h, h']
theorem wipe_set {σ : L2.St} {us : List Nat} {i : Nat} (o : Option V) (h : i ∈ us) : wipe (σ.set i o) us = wipe σ us := by
  apply List.ext_getElem?
  intro j
  rw [wipe_get, wipe_get]
  by_cases hj : j ∈ us
  · simp [hj]
  · have : i ≠ j := fun e => hj (e ▸ h)
    simp [hj, List.getElem?_set_ne this]
theorem wipe_wipe (σ : L2.St) (us : List Nat) : wipe (wipe σ us) us = wipe σ us := by
  apply List.ext_getElem?
  intro j
  rw [wipe_get, wipe_length, wipe_get]
  by_cases hj : j ∈ us <;> simp [hj]
variable {us : List Nat}
def gN (i : Nat) : MG := fun w τ S => some (τ.set i (some w), S)
theorem mg_name {i : Nat} {x : Str} (hN : X.N.Nodup) (hi : X.N[i]? = some x) (hx : Loc X.env.scope x) (hu : i ∈ us := by decide) (hf : X.fn x = true ∨ X.env.scope.names.lookup x = some .local := by first | exact .inl rfl | exact .inr rfl | assumption) : EG X us (.Name x pos) (gN i) :=
  PG.imp (pg_name hN hi hx hf) fun v σ H Q ⟨F, α, S, τ, w, τ', S', r, sl, rw', e, q⟩ => by
    cases e
    exact q α H _ r Stp.refl (sl.set rw') (wipe_set _ hu)
def gsN : MGs := fun ws τ S => match ws with
  | [] => some (τ, S)
  | _ => none
def gsC (g : MG) (gs : MGs) : MGs := fun ws τ S => match ws with
  | w :: r => (g w τ S).bind fun p => gs r p.1 p.2
  | _ => none
theorem mgs_nil : EGs X us [] gsN := PGs.imp pgs_nil fun v σ H Q ⟨F, α, S, τ, w, τ', S', r, sl, rw', e, q⟩ => by
  unfold gsN at e
  split at e
  · cases e
    unfold RepWs at rw'
    exact ⟨rw', q α H σ r Stp.refl sl rfl⟩
  · cases e
theorem mgs_cons {es : List Expr} {g : MG} {gs : MGs} (h1 : EG X us e g) (h2 : EGs X us es gs) (hs : (assignEach (e :: es) X.env).map (·.2) = assign e X.env :: (assignEach es X.env).map (·.2) := by rfl) : EGs X us (e :: es) (gsC g gs) :=
  PGs.imp (pgs_cons h1 h2 hs) fun v σ H Q ⟨F, α, S, τ, w, τ', S', r, sl, rw', e, q⟩ => by
    unfold gsC at e
    split at e
    · rename_i w ws
      unfold RepWs at rw'
      obtain ⟨v1, vr, rfl, r1, r2⟩ := rw'
      rw [Option.bind_eq_some_iff] at e
      obtain ⟨⟨τ1, S1⟩, e1, e2⟩ := e
      refine ⟨v1, vr, rfl, F, α, S, τ, w, τ1, S1, r, sl, r1, e1, fun α' H' σ' r' s' sl' wp => ?_⟩
      exact ⟨F, α', S1, τ1, ws, τ', S', r', sl', r2.stp s', e2, fun α2 H2 σ2 r2 s2 sl2 wp2 => q α2 H2 σ2 r2 (s'.trans s2) sl2 (wp2.trans wp)⟩
    · cases e
def W.items : W → Option (List W)
  | .d (.tup xs) => some (xs.map .d)
  | .tup ws => some ws
  | _ => none
theorem reps_d {G : Gx} {H : Hp} {Y : Addr → Prop} {α : List Addr} : ∀ {xs : List D} {vs : List V}, Reps G H Y xs vs → RepWs G H Y α (xs.map .d) vs
  | [], vs, h => by unfold Reps at h; show RepWs _ _ _ _ [] _; unfold RepWs; exact h
  | x :: xs, vs, h => by
    unfold Reps at h
    obtain ⟨v, r, e, h1, h2⟩ := h
    show RepWs _ _ _ _ (W.d x :: xs.map .d) _
    unfold RepWs
    exact ⟨v, r, e, rw_d h1, reps_d h2⟩
theorem RepWs.length {G : Gx} {H : Hp} {Y : Addr → Prop} {α : List Addr} : ∀ {ws : List W} {vs : List V}, RepWs G H Y α ws vs → ws.length = vs.length
  | [], vs, h => by unfold RepWs at h; subst h; rfl
  | w :: ws, vs, h => by
    unfold RepWs at h
    obtain ⟨v, r, rfl, h1, h2⟩ := h
    simp [RepWs.length h2]
theorem Reps.length {G : Gx} {H : Hp} {Y : Addr → Prop} : ∀ {ws : List D} {vs : List V}, Reps G H Y ws vs → ws.length = vs.length
  | [], vs, h => by unfold Reps at h; subst h; rfl
  | w :: ws, vs, h => by
    unfold Reps at h
    obtain ⟨v, r, rfl, h1, h2⟩ := h
    simp [Reps.length h2]
theorem W.items_at {G : Gx} {H : Hp} {Y : Addr → Prop} {α : List Addr} {w : W} {v : V} {ws : List W} (h : RepW G H Y α w v) (e : w.items = some ws) : ∃ a vs, v = .ref a ∧ ¬ Y a ∧ H a = some (.tup vs) ∧ RepWs G H Y α ws vs := by
  unfold W.items at e
  split at e
  · cases e
    unfold RepW Rep at h
    obtain ⟨a, vs, e1, n, h1, h2⟩ := h
    exact ⟨a, vs, e1, n, h1, reps_d h2⟩
  · cases e
    unfold RepW at h
    exact h
  · cases e
def gT (n : Nat) (gs : MGs) : MG := fun w τ S => match w.items with
  | some ws => if ws.length = n then gs ws τ S else none
  | none => none
theorem mg_tup {es : List Expr} {k n : Nat} {gs : MGs} (hc : X.calm = true) (h : EGs X us es gs) (hn : (assignEach es X.env).length = n := by rfl) (hst : (assignEach es X.env).findIdx? (·.1) = none := by rfl) : EG X us (.Tuple es k pos) (gT n gs) :=
  PG.imp (pg_tup hc h hn hst) fun v σ H Q ⟨F, α, S, τ, w, τ', S', r, sl, rw', e, q⟩ => by
    unfold gT at e
    split at e
    · rename_i ws ei
      split at e
      · rename_i hl
        obtain ⟨a, vs, e1, _, h1, h2⟩ := W.items_at rw' ei
        exact ⟨a, vs, e1, SqT.of h1, by rw [← h2.length]; exact hl, F, α, S, τ, ws, τ', S', r, sl, h2, e, q⟩
      · cases e
    · cases e
def asS (m : ME) (g : MG) : MS := fun τ S => (m τ S).out τ fun w S1 => match g w τ S1 with
  | some (τ', S2) => .nx τ' S2
  | none => .no
theorem ms_asg {g : MG} (he : EE X Wx e m) (hg : EG X us tg g) (hs : swapsWithSole [tg] e pos.line X.env = pure false := by rfl) (hw : swappedStores [tg] e X.env = pure none := by rfl)
    (h1 : (assignEach [tg] X.env).map (·.2) = [assign tg X.env] := by rfl) : ES X Wx (.Assign [tg] e pos) (asS m g) := PS.imp (ps_asg he hg hs hw h1) fun D σ H h =>
  tS_then (R := rW X.gx) (k := fun w τ S1 => match g w τ S1 with
    | some (τ', S2) => .nx τ' S2
    | none => .no) h fun v H1 F α S τ w r sl rw' f => by
    split at f
    · rename_i τ' S2 eg
      exact ⟨F, α, S, τ, w, τ', S2, r, sl, rw', eg, fun α' H' σ' r' s' sl' _ => f α' H' σ' r' s' sl'⟩
    · exact f.elim
theorem ms_set {i : Nat} {x : Str} {pos' : Pos} (hN : X.N.Nodup) (hi : X.N[i]? = some x) (hx : Loc X.env.scope x) (he : EE X Wx e m) (hs : swapsWith e (some (.Name x pos')) pos.line X.env = pure false := by rfl) (hf : X.fn x = true ∨ X.env.scope.names.lookup x = some .local := by first | exact .inl rfl | exact .inr rfl | assumption) :
    ES X Wx (.Assign [.Name x pos'] e pos) (asS m (gN i)) := PS.imp (ps_set hN hi hx he hs hf) fun D σ H h =>
  tS_then (R := rW X.gx) (k := fun w τ S1 => match gN i w τ S1 with
    | some (τ', S2) => .nx τ' S2
    | none => .no) h fun v H1 F α S τ w r sl rw' f => f α H1 _ r Stp.refl (sl.set rw')
def paS (i j : Nat) (as : MA) : MS := fun τ S => (as τ S).out τ fun ws S1 => match ws with
  | [u, v] => .nx ((τ.set i (some u)).set j (some v)) S1
  | _ => .no
theorem ms_par {i j : Nat} {x y : Str} {as : MA} {px py pt : Pos} {kt k2 pt2} (hc : X.calm = true) (hN : X.N.Nodup) (hi : X.N[i]? = some x) (hj : X.N[j]? = some y) (hij : i ≠ j)
    (hx : X.env.scope.names.lookup x = some .local) (hy : X.env.scope.names.lookup y = some .local) (ha : EA X Wx [a, b] as)
    (hw : swappedStores [.Tuple [.Name x px, .Name y py] kt pt] (.Tuple [a, b] k2 pt2) X.env = pure (some [x, y]))
    (hs : swapsWithSole [.Tuple [.Name x px, .Name y py] kt pt] (.Tuple [a, b] k2 pt2) pos.line X.env = pure false := by rfl) :
    ES X Wx (.Assign [.Tuple [.Name x px, .Name y py] kt pt] (.Tuple [a, b] k2 pt2) pos) (paS i j as) := PS.imp (ps_par hc hN hi hj hij hx hy ha hw hs) fun D σ H h =>
  tS_then (R := rWs X.gx) (k := fun ws τ S1 => match ws with
    | [u, v] => .nx ((τ.set i (some u)).set j (some v)) S1
    | _ => .no) h fun v H1 F α S τ w r sl rw' f => by
    split at f
    · rename_i u z
      unfold RepWs at rw'
      obtain ⟨v1, r1, rfl, h1, h2⟩ := rw'
      obtain ⟨v2, r2, rfl, h3, h4⟩ := (by unfold RepWs at h2; exact h2 : ∃ v r, r1 = v :: r ∧ RepW X.gx H1 (XX F α S) α z v ∧ RepWs X.gx H1 (XX F α S) α [] r)
      unfold RepWs at h4
      subst h4
      exact ⟨v1, v2, rfl, f α H1 _ r Stp.refl ((sl.set h1).set h3)⟩
    · exact f.elim
def whS (t : MT) (b : MS) : Nat → MS
  | 0 => fun _ _ => .no
  | n + 1 => fun τ S => (t τ S).out τ fun c S1 => if c = true then (match b τ S1 with
      | .nx τ2 S2 => whS t b n τ2 S2
      | .ct τ2 S2 => whS t b n τ2 S2
      | .bk τ2 S2 => .nx τ2 S2
      | o => o) else .nx τ S1
theorem ms_while {body : List Stmt} (n : Nat) (hp : PassesOwn (model X.prog X.w) X.A X.env X.xe) (hc : ET X Wx c t) (hb : ESs X Wx body s1) : ES X Wx (.While c body [] pos) (whS t s1 n) := by
  refine PS.imp (ps_while hp hc hb) fun D σ H h => ?_
  refine ⟨fun m σ H => tS X Wx (whS t s1 m) D σ H, ⟨n, h⟩, fun m σ H h => ?_⟩
  cases m with
  | zero => obtain ⟨F, α, S, τ, r, sl, f⟩ := h; exact f.elim
  | succ m =>
    refine tS_then (R := rB) (k := fun c τ S1 => if c = true then (match s1 τ S1 with
      | .nx τ2 S2 => whS t s1 m τ2 S2
      | .ct τ2 S2 => whS t s1 m τ2 S2
      | .bk τ2 S2 => .nx τ2 S2
      | o => o) else .nx τ S1) h fun v H1 F α S τ w r sl rw' f => ?_
    cases rw'
    cases v with
    | false => exact f α H1 σ r Stp.refl sl
    | true =>
      simp only [if_true] at f ⊢
      refine ⟨fun σ' H' => tS X Wx (whS t s1 m) D σ' H', fun σ' H' q => ⟨m, Nat.lt_succ_self _, q⟩, F, α, S, τ, r, sl, ?_⟩
      cases em : s1 τ S with
      | nx τ' S' => rw [em] at f; exact fun α' H' σ' r' s' sl' => ⟨F, α', S', τ', r', sl', FinS.stp s' f⟩
      | rt w S' => rw [em] at f; exact f
      | bk τ' S' => rw [em] at f; exact f
      | ct τ' S' => rw [em] at f; exact fun α' H' σ' r' s' sl' => ⟨F, α', S', τ', r', sl', FinS.stp s' f⟩
      | ex c fs ws τ' S' => rw [em] at f; exact f
      | no => rw [em] at f; exact f
structure StpF (F : Addr → Prop) (α : List Addr) (S : Sto) (H : Hp) (α' : List Addr) (S' : Sto) (H' : Hp) : Prop where
  pre : α <+: α'
  keep : ∀ a o, H a = some o → ¬ F a → ¬ own α S a → H' a = some o
  less : ∀ a o, H a = some o → ¬ F a → own α' S' a → own α S a
theorem Stp.toF {F : Addr → Prop} {α α' : List Addr} {S S' : Sto} {H H' : Hp} (s : Stp α S H α' S' H') : StpF F α S H α' S' H' := ⟨s.pre, fun a o e _ n => s.keep a o e n, fun a o e _ z => s.less a o e z⟩
def Yields (G : Gx) (F : Addr → Prop) (α0 : List Addr) (S0 : Sto) (H0 : Hp) (J : It) (ws : List W) : Prop := ∀ i α S H, Rel G F α S H → StpF F α0 S0 H0 α S H →
  (i = ws.length → J.stop i H) ∧ ∀ w, ws[i]? = some w → J.go i H ∧ ∀ x H', J.yld i H x H' → Same H H' ∧ RepW G H' (XX F α S) α w x
def FinI (G : Gx) (F : Addr → Prop) (α : List Addr) (S : Sto) (H : Hp) (R : It → Hp → Prop) (E : XK) : Res (List W) → Prop
  | .ok ws S' => ∀ α' H' J, Rel G F α' S' H' → Stp α S H α' S' H' → (∀ F', (∀ a, F' a → F a ∨ H' a = none) → Yields G F' α' S' H' J ws) → R J H'
  | .ex c fs ws S' => ∀ α' H' d, Rel G F α' S' H' → Stp α S H α' S' H' → ExcD G H' (XX F α' S') α' d fs ws → E (.ref (ga G.K c)) d H'
  | .no => False
abbrev tIt (X : Cx) (Wx : WX) (m : MA) : TI := fun σ H R => ∃ F α S τ, Rel X.gx F α S H ∧ SlotsR X.gx H (XX F α S) α τ σ ∧ FinI X.gx F α S H R (fun c d H' => Wx c d σ H') (m τ S)
abbrev EI (X : Cx) (Wx : WX) (tg e : Expr) (m : MA) : Prop := PI X tg e (tIt X Wx m)
theorem PI.imp {tg e : Expr} {t t' : TI} (h : PI X tg e t) (k : ∀ σ H R, t' σ H R → t σ H R) : PI X tg e t' := ⟨fun pins s σ H R I q => h.run pins s σ H R I (k σ H R q)⟩
def loopS (g : MG) (b : MS) : List W → MS
  | [] => fun τ S => .nx τ S
  | w :: ws => fun τ S => match g w τ S with
    | none => .no
    | some (τ1, S1) => match b τ1 S1 with
      | .nx τ2 S2 => loopS g b ws τ2 S2
      | .ct τ2 S2 => loopS g b ws τ2 S2
      | .bk τ2 S2 => .nx τ2 S2
      | o => o
def foS (mi : MA) (g : MG) (b : MS) : MS := fun τ S => (mi τ S).out τ fun ws S1 => loopS g b ws τ S1
theorem ms_for {iter : Expr} {body : List Stmt} {mi : MA} {g : MG} (hp : PassesOwn (model X.prog X.w) X.A X.env X.xe) (hc : X.calm = true) (hi : EI X Wx tg iter mi) (hg : EG X us tg g) (hb : ESs X Wx body s1)
    (hs : ∀ x, foldedSetIterable iter X.env x = pure x := by intro _; rfl) : ES X Wx (.For tg iter body [] pos) (foS mi g s1) := by
  refine PS.imp (ps_for hp hc hi hg hb hs) fun D σ H h => ?_
  obtain ⟨F, α, S, τ, r, sl, f⟩ := h
  refine ⟨F, α, S, τ, r, sl, ?_⟩
  unfold foS at f
  cases em : mi τ S with
  | no => rw [em] at f; exact f
  | ex c fs ws S' => rw [em] at f; exact fun α' H' d r' s' h' => f α' H' d σ r' s' (sl.stp s') h'
  | ok ws S0 =>
    rw [em] at f
    intro α0 H0 J r0 s0 hy
    have hy := hy F fun _ z => .inl z
    have f0 : FinS X.gx F α0 S0 H0 D Wx (loopS g s1 ws τ S0) := FinS.stp s0 f
    refine ⟨fun i m σ H => m = ws.length - i ∧ i ≤ ws.length ∧ ∃ α S τ, Rel X.gx F α S H ∧ Stp α0 S0 H0 α S H ∧ SlotsR X.gx H (XX F α S) α τ σ ∧ FinS X.gx F α S H D Wx (loopS g s1 (ws.drop i) τ S), ⟨ws.length, by simp, Nat.zero_le _, α0, S0, τ, r0, Stp.refl, sl.stp s0, by simpa using f0⟩, ?_⟩
    rintro i m σ H ⟨rfl, hle, α, S, τ, r, s, sl, f⟩
    by_cases hlt : i < ws.length
    · have ei : ws[i]? = some ws[i] := by simp [hlt]
      have ed : ws.drop i = ws[i] :: ws.drop (i + 1) := List.drop_eq_getElem_cons hlt
      rw [ed] at f
      obtain ⟨hgo, hyl⟩ := (hy i α S H r s.toF).2 _ ei
      refine .inr ⟨hgo, fun σ' H' => i + 1 ≤ ws.length ∧ ∃ α S τ, Rel X.gx F α S H' ∧ Stp α0 S0 H0 α S H' ∧ SlotsR X.gx H' (XX F α S) α τ σ' ∧ FinS X.gx F α S H' D Wx (loopS g s1 (ws.drop (i + 1)) τ S), fun σ' H' q => ⟨_, by omega, rfl, q⟩, fun x H' y => ?_⟩
      obtain ⟨sm, rx⟩ := hyl x H' y
      have s' : Stp α S H α S H' := Stp.same sm
      unfold loopS at f
      cases eg : g ws[i] τ S with
      | none => rw [eg] at f; exact f.elim
      | some p =>
        obtain ⟨τ1, S1⟩ := p
        rw [eg] at f
        refine ⟨F, α, S, τ, ws[i], τ1, S1, r.same sm, sl.stp s', rx, eg, fun α2 H2 σ2 r2 s2 sl2 _ => ?_⟩
        refine ⟨F, α2, S1, τ1, r2, sl2, ?_⟩
        have f2 := FinS.stp (s'.trans s2) f
        dsimp only at f2
        have so := (s.trans s').trans s2
        cases eb : s1 τ1 S1 with
        | nx τ' S' => rw [eb] at f2; exact fun α' H' σ' r' s3 sl' => ⟨hlt, α', S', τ', r', so.trans s3, sl', FinS.stp s3 f2⟩
        | ct τ' S' => rw [eb] at f2; exact fun α' H' σ' r' s3 sl' => ⟨hlt, α', S', τ', r', so.trans s3, sl', FinS.stp s3 f2⟩
        | rt w S' => rw [eb] at f2; exact f2
        | bk τ' S' => rw [eb] at f2; exact f2
        | ex c fs ws τ' S' => rw [eb] at f2; exact f2
        | no => rw [eb] at f2; exact f2
    · have e : i = ws.length := by omega
      refine .inl ⟨(hy i α S H r s.toF).1 e, ?_⟩
      rw [e, List.drop_length] at f
      exact f α H σ r Stp.refl sl
end
end Mi
set_option Elab.async false
set_option linter.all false
set_option maxRecDepth 100000
set_option maxHeartbeats 4000000
namespace Mi
open PySem PySem.Spec PyProof.Rows L2 He Wl
theorem nodup_at {β : Type} {l : List β} (h : l.Nodup) {i j : Nat} {x : β} (a : l[i]? = some x) (b : l[j]? = some x) : i = j := by
  obtain ⟨h1, e1⟩ := List.getElem?_eq_some_iff.mp a
  obtain ⟨h2, e2⟩ := List.getElem?_eq_some_iff.mp b
  exact (List.getElem_inj h).mp (e1.trans e2.symm)
def mapO {β γ : Type} (f : β → Option γ) : List β → Option (List γ)
  | [] => some []
  | x :: xs => (f x).bind fun y => (mapO f xs).bind fun ys => some (y :: ys)
def toDf (k : Nat) (S : Sto) : Nat → W → Option D
  | 0, _ => none
  | f + 1, .d x => some x
  | f + 1, .tup ws => (mapO (toDf k S f) ws).map D.tup
  | f + 1, .loc n => if n < k then none else match S[n]? with
    | some (.lst ws) => (mapO (toDf k S f) ws).map D.lst
    | some (.dct _ _) => none
    | some (.ins c fs ws) => (mapO (toDf k S f) ws).map (D.ins c fs)
    | some (.fz x) => some x
    | some (.fzl ws) => (mapO (toDf k S f) ws).map D.lst
    | some (.fzd _ _) => none
    | none => none
abbrev toD (k : Nat) (S : Sto) (w : W) : Option D := toDf k S 4 w
@[simp] theorem toDf_d (k : Nat) (S : Sto) (f : Nat) (x : D) : toDf k S (f + 1) (.d x) = some x := rfl
@[simp] theorem mapO_nil {β γ : Type} (f : β → Option γ) : mapO f [] = some [] := rfl
@[simp] theorem mapO_cons {β γ : Type} (f : β → Option γ) (x : β) (xs : List β) : mapO f (x :: xs) = (f x).bind fun y => (mapO f xs).bind fun ys => some (y :: ys) := rfl
@[simp] theorem mapO_d (k : Nat) (S : Sto) (f : Nat) : ∀ xs : List D, mapO (toDf k S (f + 1)) (xs.map .d) = some xs
  | [] => rfl
  | x :: xs => by simp [mapO_d k S f xs]
theorem Rep.less {G : Gx} {H : Hp} {X X' : Addr → Prop} {d : D} {v : V} (h : Rep G H X d v) (l : ∀ a, X' a → X a) : Rep G H X' d v := h.stay ⟨fun _ _ e _ => e, fun a _ _ z => l a z⟩
theorem Reps.less {G : Gx} {H : Hp} {X X' : Addr → Prop} {d : List D} {v : List V} (h : Reps G H X d v) (l : ∀ a, X' a → X a) : Reps G H X' d v := h.stay ⟨fun _ _ e _ => e, fun a _ _ z => l a z⟩
section
variable {G : Gx} {F : Addr → Prop} {α : List Addr} {S : Sto} {H : Hp}
theorem toDf_rep (r : Rel G F α S H) {k : Nat} {Y : Addr → Prop} (l : ∀ a, Y a → XX F α S a) (o : ∀ (n : Nat) a, α[n]? = some a → k ≤ n → ¬ Y a) : ∀ (f : Nat) {w : W} {v : V} {x : D}, RepW G H (XX F α S) α w v → toDf k S f w = some x → Rep G H Y x v := by
  intro f
  induction f with
  | zero => intro w v x _ e; cases e
  | succ f ih =>
    have all : ∀ {ws : List W} {vs : List V} {xs : List D}, RepWs G H (XX F α S) α ws vs → mapO (toDf k S f) ws = some xs → Reps G H Y xs vs := by
      intro ws
      induction ws with
      | nil => intro vs xs h e; cases e; unfold RepWs at h; unfold Reps; exact h
      | cons w ws ih2 =>
        intro vs xs h e
        unfold RepWs at h
        obtain ⟨v, rr, rfl, h1, h2⟩ := h
        rw [mapO_cons, Option.bind_eq_some_iff] at e
        obtain ⟨y, e1, e⟩ := e
        rw [Option.bind_eq_some_iff] at e
        obtain ⟨ys, e2, e⟩ := e
        cases e
        unfold Reps
        exact ⟨v, rr, rfl, ih h1 e1, ih2 h2 e2⟩
    intro w v x h e
    cases w with
    | d y => cases e; unfold RepW at h; exact h.less l
    | tup ws =>
      unfold toDf at e
      rw [Option.map_eq_some_iff] at e
      obtain ⟨xs, e, rfl⟩ := e
      unfold RepW at h
      obtain ⟨a, vs, e1, n, h1, h2⟩ := h
      unfold Rep
      exact ⟨a, vs, e1, fun z => n (l a z), h1, all h2 e⟩
    | loc n =>
      unfold toDf at e
      split at e
      · cases e
      · rename_i hk
        unfold RepW at h
        obtain ⟨a, ea, rfl⟩ := h
        have na : ¬ Y a := o n a ea (by omega)
        split at e
        · rename_i ws es
          rw [Option.map_eq_some_iff] at e
          obtain ⟨xs, e, rfl⟩ := e
          obtain ⟨vs, h1, h2⟩ := r.obj n a _ ea es
          unfold Rep
          exact ⟨a, vs, rfl, na, h1, all h2 e⟩
        · cases e
        · rename_i c fs ws es
          rw [Option.map_eq_some_iff] at e
          obtain ⟨xs, e, rfl⟩ := e
          obtain ⟨dx, vs, h1, nd, h2, h3, h4⟩ := r.obj n a _ ea es
          unfold Rep
          exact ⟨a, dx, vs, rfl, na, fun z => nd (l _ z), h1, h2, h3, all h4 e⟩
        · rename_i y es
          cases e
          have h := r.obj n a _ ea es
          exact Rep.less h l
        · rename_i ws es
          rw [Option.map_eq_some_iff] at e
          obtain ⟨xs, e, rfl⟩ := e
          obtain ⟨vs, _, h1, h2⟩ := r.obj n a _ ea es
          unfold Rep
          exact ⟨a, vs, rfl, na, h1, all h2 e⟩
        · cases e
        · cases e
theorem toDfs_rep (r : Rel G F α S H) {k : Nat} {Y : Addr → Prop} (l : ∀ a, Y a → XX F α S a) (o : ∀ (n : Nat) a, α[n]? = some a → k ≤ n → ¬ Y a) (f : Nat) : ∀ {ws : List W} {vs : List V} {xs : List D}, RepWs G H (XX F α S) α ws vs → mapO (toDf k S f) ws = some xs → Reps G H Y xs vs
  | [], vs, xs, h, e => by cases e; unfold RepWs at h; unfold Reps; exact h
  | w :: ws, vs, xs, h, e => by
    unfold RepWs at h
    obtain ⟨v, rr, rfl, h1, h2⟩ := h
    rw [mapO_cons, Option.bind_eq_some_iff] at e
    obtain ⟨y, e1, e⟩ := e
    rw [Option.bind_eq_some_iff] at e
    obtain ⟨ys, e2, e⟩ := e
    cases e
    unfold Reps
    exact ⟨v, rr, rfl, toDf_rep r l o f h1 e1, toDfs_rep r l o f h2 e2⟩
end
abbrev MF := List W → Sto → Res W
def spM (G : Gx) (m : MF) : Sp := fun vs H Q E => ∃ F α S ws, Rel G F α S H ∧ RepWs G H (XX F α S) α ws vs ∧ Fin (rW G) G F α S H Q E (m ws S)
def defM (n : Nat) (more : Nat) (b : MS) : MF := fun ws S => if ws.length = n then (match b (ws.map some ++ List.replicate more none) S with
  | .nx _ S' => .ok (.d .non) S'
  | .rt w S' => .ok w S'
  | .ex c fs xs _ S' => .ex c fs xs S'
  | _ => .no) else .no
theorem slots_start {G : Gx} {H : Hp} {Y : Addr → Prop} {α : List Addr} {ws : List W} {vs : List V} (h : RepWs G H Y α ws vs) (more : Nat) : SlotsR G H Y α (ws.map some ++ List.replicate more none) (vs.map some ++ List.replicate more none) := by
  have hl := h.length
  refine ⟨by simp [hl], fun i w e => ?_⟩
  by_cases hi : i < ws.length
  · rw [List.getElem?_append_left (by simpa using hi)] at e
    rw [List.getElem?_append_left (by simp; omega)]
    clear hl
    induction ws generalizing vs i with
    | nil => simp at hi
    | cons x xs ih =>
      unfold RepWs at h
      obtain ⟨v, r, rfl, h1, h2⟩ := h
      cases i with
      | zero => simp at e; subst e; exact ⟨v, by simp, h1⟩
      | succ i => simpa using ih (vs := r) (i := i) h2 (by simpa using e) (by simpa using hi)
  · rw [List.getElem?_append_right (by simpa using hi)] at e
    rw [List.getElem?_replicate] at e
    split at e <;> cases e
section
variable {P : Program} {w : World} {K : PySem.W.Frag} {mg : Str → Option Value} {base : Heap} {x qual : Str} {params : Arguments} {body : List Stmt} {scope : Scope} {f : Addr} {N ps : List Str} {k : Nat} {sp : Sp}
theorem start_eq (N : List Str) (vs : List V) (n more : Nat) (hN : N.length = n + more) (hl : vs.length = n) : L2.start N vs = vs.map some ++ List.replicate more none := by
  unfold L2.start
  congr 1
  rw [hN, hl, Nat.add_sub_cancel_left]
theorem def_of {n more : Nat} {b : MS} (hF : ∃ fd, FunD K x qual params body scope [] [] f fd) (S : FnScope N ps scope) (hp : ps.length = n) (hN : N.length = n + more)
    (hbody : ∀ (cdv : Value) (A : Around) (outer : List Env) (s : Shared) (H : Hp) (E : XK), Room k (A.deeper (envOfC qual scope s.heap.objs.size f cdv)) →
      ESs (cxOf (L2.CX P w) P w K mg base N qual scope f cdv A outer s H E) (fun c d _ H' => E c d H') body b) : FnD P w K mg base (k + 1) f ps (spM ⟨P, w, K⟩ (defM n more b)) x qual params body scope := by
  refine fnD_of hF S (fun vs H Q E h => ?_) fun cdv A outer s H vs Q E hr h => ⟨_, hbody cdv A outer s H E hr, ?_⟩
  · obtain ⟨F, α, S, ws, r, hw, f⟩ := h
    unfold defM at f
    split at f
    · rename_i e; rw [hp, ← e, hw.length]
    · exact f.elim
  · obtain ⟨F, α, S, ws, r, hw, f⟩ := h
    unfold defM at f
    split at f
    · rename_i e
      refine ⟨F, α, S, ws.map some ++ List.replicate more none, r, ?_, ?_⟩
      · rw [start_eq N vs n more hN (by rw [← hw.length]; exact e)]
        exact slots_start hw more
      · cases eb : b (ws.map some ++ List.replicate more none) S with
        | nx τ S' => rw [eb] at f; exact fun α' H' σ r' s' _ => f α' H' .non r' s' (rw_d rep_non)
        | rt v S' => rw [eb] at f; exact f
        | bk τ S' => rw [eb] at f; exact f.elim
        | ct τ S' => rw [eb] at f; exact f.elim
        | ex c fs xs τ S' => rw [eb] at f; exact fun α' H' d σ r' s' _ h' => f α' H' d r' s' h'
        | no => rw [eb] at f; exact f.elim
    · exact f.elim
end
def allD : List W → Bool
  | [] => true
  | .d _ :: ws => allD ws
  | _ => false
@[simp] theorem allD_map : ∀ xs : List D, allD (xs.map .d) = true
  | [] => rfl
  | x :: xs => allD_map xs
def atomD : D → Bool
  | .non => true
  | .bl _ => true
  | .int _ => true
  | .str _ => true
  | _ => false
theorem rep_atom {G : Gx} {H : Hp} {X X' : Addr → Prop} {x : D} {v : V} (a : atomD x = true) (h : Rep G H X x v) : Rep G H X' x v := by
  cases x <;> first | (cases a; done) | (unfold Rep at h ⊢; exact h)
theorem reps_atom {G : Gx} {H : Hp} {X X' : Addr → Prop} : ∀ {x : List D} {v : List V}, x.all atomD = true → Reps G H X x v → Reps G H X' x v
  | [], v, _, h => by unfold Reps at h ⊢; exact h
  | x :: xs, v, a, h => by
    rw [List.all_cons, Bool.and_eq_true] at a
    unfold Reps at h ⊢
    obtain ⟨v1, r, e, h1, h2⟩ := h
    exact ⟨v1, r, e, rep_atom a.1 h1, reps_atom a.2 h2⟩
def low (b : Bool) (S : Sto) : Res W → Res W
  | .ok w S' => match toD 0 S' w with
    | some x => if (b || atomD x) = true then .ok (.d x) S else .no
    | none => .no
  | .ex c fs ws S' => match mapO (toD 0 S') ws with
    | some xs => if (b || xs.all atomD) = true then .ex c fs (xs.map .d) S else .no
    | none => .no
  | .no => .no
def callP (m : MF) (ws : List W) (S : Sto) : Res W := match mapO (toD 0 S) ws with
  | some ds => low (allD ws) S (m (ds.map .d) [])
  | none => .no
theorem ObjAt.noxd {G : Gx} {H : Hp} {X : Addr → Prop} {α : List Addr} {a : Addr} {o : O} (h : ObjAt G H X α a o) (ho : o.own = true) : ∀ fs, H a ≠ some (.xd fs) := by
  intro z e
  cases o with
  | lst ws => obtain ⟨vs, h, _⟩ := h; rw [e] at h; cases h
  | dct ks ws =>
    obtain ⟨vs, h, _⟩ := h
    rcases h with ⟨_, h, _⟩ | ⟨_, h, _⟩ | ⟨_, h, _⟩
    · rw [e] at h; cases h
    · rw [e] at h; cases h
    · rw [e] at h; cases h
  | ins c fs ws => obtain ⟨dx, vs, h, _⟩ := h; rw [e] at h; cases h
  | fz x => cases ho
  | fzl ws => cases ho
  | fzd ks ws => cases ho
section
variable {G : Gx} {F : Addr → Prop} {α : List Addr} {S : Sto} {H : Hp} {Q : VK} {E : XK} {m : MF} {ws : List W} {vs : List V}
theorem own_nil (a : Addr) : ¬ own [] [] a := fun ⟨n, o, h, _⟩ => by simp at h
theorem rel_nil {F : Addr → Prop} (h : ∀ a, F a → ∃ o, H a = some o) : Rel G F [] [] H := ⟨rfl, .nil, fun _ _ z => (nomatch z), h, fun n a e => by simp at e, fun n a o e => by simp at e⟩
theorem Rel.xd (r : Rel G F α S H) {a : Addr} (h : XX F α S a) : ∃ o, H a = some o := h.elim (r.fd a) r.own_at
theorem Rel.noF (r : Rel G F α S H) {n : Nat} {a : Addr} (h : α[n]? = some a) : ¬ F a := fun z => r.fr a z (List.mem_of_getElem? h)
theorem callP_ok (r : Rel G F α S H) (h : RepWs G H (XX F α S) α ws vs) (f : Fin (rW G) G F α S H Q E (callP m ws S)) : spM G m vs H Q E := by
  unfold callP at f
  split at f
  · rename_i ds ed
    -- the callee's outside
    obtain ⟨Y, hY, hYF, hd, ha⟩ : ∃ Y : Addr → Prop, (∀ a, Y a → XX F α S a) ∧ (∀ a, F a → Y a) ∧ Reps G H Y ds vs ∧ (allD ws = true → Y = XX F α S) := by
      cases q : allD ws with
      | true =>
        refine ⟨XX F α S, fun _ z => z, fun _ z => .inl z, ?_, fun _ => rfl⟩
        have : ∀ {ws : List W} {vs : List V} {ds : List D}, allD ws = true → mapO (toD 0 S) ws = some ds → RepWs G H (XX F α S) α ws vs → Reps G H (XX F α S) ds vs := by
          intro ws
          induction ws with
          | nil => intro vs ds _ e h; cases e; unfold RepWs at h; unfold Reps; exact h
          | cons w ws ih =>
            intro vs ds a e h
            cases w with
            | d x =>
              unfold RepWs at h
              obtain ⟨v, rr, rfl, h1, h2⟩ := h
              rw [mapO_cons] at e
              simp only [toDf_d, Option.bind_some] at e
              rw [Option.bind_eq_some_iff] at e
              obtain ⟨ys, e2, e⟩ := e
              cases e
              unfold Reps
              exact ⟨v, rr, rfl, by unfold RepW at h1; exact h1, ih a e2 h2⟩
            | loc n => cases a
            | tup n => cases a
        exact this q ed h
      | false => exact ⟨F, fun _ z => .inl z, fun _ z => z, toDfs_rep r (fun _ z => .inl z) (fun n a e _ => r.noF e) 4 h ed, fun z => nomatch z⟩
    have eX : ∀ a, XX Y [] [] a ↔ Y a := fun a => ⟨fun z => z.elim id fun z => absurd z (own_nil a), .inl⟩
    refine ⟨Y, [], [], ds.map .d, rel_nil fun a z => r.xd (hY a z), reps_d (hd.less fun a z => (eX a).mp z), ?_⟩
    cases em : m (ds.map .d) [] with
    | no => rw [em] at f; exact f
    | ok w S' =>
      rw [em] at f
      intro α' H' v r' s' h'
      have sm : Same H H' := fun a o e => s'.keep a o e (own_nil a)
      unfold low at f
      dsimp only at f
      split at f
      · rename_i x ex
        split at f
        · rename_i hc
          have hx : Rep G H' Y x v := toDf_rep r' (fun _ z => .inl z) (fun n a e _ => r'.noF e) 4 h' ex
          refine f α H' v (r.same sm) (Stp.same sm) (rw_d ?_)
          rw [Bool.or_eq_true] at hc
          rcases hc with hc | hc
          · rw [← ha hc]; exact hx
          · exact rep_atom hc hx
        · exact f.elim
      · exact f.elim
    | ex c fs xs S' =>
      rw [em] at f
      intro α' H' d r' s' h'
      have sm : Same H H' := fun a o e => s'.keep a o e (own_nil a)
      unfold low at f
      dsimp only at f
      split at f
      · rename_i es ee
        split at f
        · rename_i hc
          refine f α H' d (r.same sm) (Stp.same sm) ?_
          rcases h' with ⟨e1, e2, e3⟩ | ⟨a, us, e1, n, h1, h2, h3⟩
          · subst e3; cases ee; exact .inl ⟨e1, e2, rfl⟩
          · have hx : Reps G H' Y es us := toDfs_rep r' (fun _ z => .inl z) (fun n a e _ => r'.noF e) 4 h3 ee
            refine .inr ⟨a, us, e1, fun z => ?_, h1, h2, reps_d ?_⟩
            · rcases z with z | ⟨i, o, ea, eo, ow⟩
              · exact n (.inl (hYF a z))
              · exact ((r.same sm).obj i a o ea eo).noxd ow _ h1
            · rw [Bool.or_eq_true] at hc
              rcases hc with hc | hc
              · rw [← ha hc]; exact hx
              · exact reps_atom hc hx
        · exact f.elim
      · exact f.elim
  · exact f.elim
end
end Mi
set_option Elab.async false
set_option linter.all false
set_option maxRecDepth 100000
set_option maxHeartbeats 4000000
namespace Mi
open PySem PySem.Spec PyProof.Rows L2 He Wl
def onlyD : List W → Option (List D)
  | [] => some []
  | .d x :: ws => (onlyD ws).map (x :: ·)
  | _ => none
@[simp] theorem onlyD_map : ∀ xs : List D, onlyD (xs.map .d) = some xs
  | [] => rfl
  | x :: xs => by simp [onlyD, onlyD_map xs]
@[simp] theorem onlyD_nil : onlyD [] = some [] := rfl
@[simp] theorem onlyD_cons (x : D) (ws : List W) : onlyD (.d x :: ws) = (onlyD ws).map (x :: ·) := rfl
theorem onlyD_eq : ∀ {ws : List W} {ds : List D}, onlyD ws = some ds → ws = ds.map .d
  | [], ds, e => by cases e; rfl
  | .d x :: ws, ds, e => by
    rw [onlyD_cons, Option.map_eq_some_iff] at e
    obtain ⟨ys, e, rfl⟩ := e
    rw [onlyD_eq e]; rfl
  | .loc _ :: ws, ds, e => by cases e
  | .tup _ :: ws, ds, e => by cases e
theorem d_reps {G : Gx} {H : Hp} {Y : Addr → Prop} {α : List Addr} : ∀ {xs : List D} {vs : List V}, RepWs G H Y α (xs.map .d) vs → Reps G H Y xs vs
  | [], vs, h => by unfold Reps; change RepWs _ _ _ _ [] _ at h; unfold RepWs at h; exact h
  | x :: xs, vs, h => by
    change RepWs _ _ _ _ (W.d x :: xs.map .d) _ at h
    unfold RepWs at h
    obtain ⟨v, r, e, h1, h2⟩ := h
    unfold Reps
    exact ⟨v, r, e, by unfold RepW at h1; exact h1, d_reps h2⟩
def O.flat : O → Bool
  | .lst ws => allD ws
  | .dct _ ws => allD ws
  | .ins _ _ ws => allD ws
  | .fz _ => false
  | .fzl _ => false
  | .fzd _ _ => false
theorem O.flat_own {o : O} (h : o.flat = true) : o.own = true := by cases o <;> first | rfl | cases h
theorem allD_eq : ∀ {ws : List W}, allD ws = true → ∃ ds : List D, ws = ds.map .d
  | [], _ => ⟨[], rfl⟩
  | .d x :: ws, h => let ⟨ds, e⟩ := allD_eq (ws := ws) h; ⟨x :: ds, by rw [e]; rfl⟩
  | .loc _ :: _, h => nomatch h
  | .tup _ :: _, h => nomatch h
def flatO (k : Nat) (S : Sto) : O → Option O
  | .lst ws => (mapO (toD k S) ws).map fun xs => .lst (xs.map .d)
  | .dct ks ws => (mapO (toD k S) ws).map fun xs => .dct ks (xs.map .d)
  | .ins c fs ws => (mapO (toD k S) ws).map fun xs => .ins c fs (xs.map .d)
  | .fz _ => none
  | .fzl _ => none
  | .fzd _ _ => none
theorem flatO_own {k : Nat} {S : Sto} {o o' : O} (h : flatO k S o = some o') : o.own = true ∧ o'.own = true := by
  cases o with
  | fz x => cases h
  | fzl x => cases h
  | fzd k x => cases h
  | _ => (unfold flatO at h; rw [Option.map_eq_some_iff] at h; obtain ⟨_, _, rfl⟩ := h; exact ⟨rfl, rfl⟩)
section
variable {G : Gx} {F : Addr → Prop} {α : List Addr} {S : Sto} {H : Hp} {Q : VK} {E : XK} {m : MF} {ws : List W} {vs : List V}
theorem flatO_at (r : Rel G F α S H) {k : Nat} {Y : Addr → Prop} {β : List Addr} {a : Addr} {o o' : O} (l : ∀ a, Y a → XX F α S a) (off : ∀ (n : Nat) a, α[n]? = some a → k ≤ n → ¬ Y a) (h : ObjAt G H (XX F α S) α a o) (e : flatO k S o = some o') : ObjAt G H Y β a o' := by
  cases o with
  | fz x => cases e
  | fzl x => cases e
  | fzd k x => cases e
  | lst ws =>
    unfold flatO at e; rw [Option.map_eq_some_iff] at e
    obtain ⟨xs, e, rfl⟩ := e
    obtain ⟨vs, h1, h2⟩ := h
    exact ⟨vs, h1, reps_d (toDfs_rep r l off 4 h2 e)⟩
  | dct ks ws =>
    unfold flatO at e; rw [Option.map_eq_some_iff] at e
    obtain ⟨xs, e, rfl⟩ := e
    obtain ⟨vs, h1, h2⟩ := h
    exact ⟨vs, h1.stay ⟨fun _ _ e _ => e, fun a _ _ z => l a z⟩ (fun _ h => h), reps_d (toDfs_rep r l off 4 h2 e)⟩
  | ins c fs ws =>
    unfold flatO at e; rw [Option.map_eq_some_iff] at e
    obtain ⟨xs, e, rfl⟩ := e
    obtain ⟨dx, vs, h1, nd, h2, h3, h4⟩ := h
    exact ⟨dx, vs, h1, fun z => nd (l _ z), h2, h3, reps_d (toDfs_rep r l off 4 h4 e)⟩
theorem flat_at {Y Y' : Addr → Prop} {α β : List Addr} {a : Addr} {o : O} (f : o.flat = true) (l : ∀ a, Y' a → Y a) (h : ObjAt G H Y α a o) : ObjAt G H Y' β a o := by
  cases o with
  | fz x => cases f
  | fzl x => cases f
  | fzd k x => cases f
  | lst ws =>
    obtain ⟨ds, rfl⟩ := allD_eq f
    obtain ⟨vs, h1, h2⟩ := h
    exact ⟨vs, h1, reps_d ((d_reps h2).less l)⟩
  | dct ks ws =>
    obtain ⟨ds, rfl⟩ := allD_eq f
    obtain ⟨vs, h1, h2⟩ := h
    exact ⟨vs, h1.stay ⟨fun _ _ e _ => e, fun a _ _ z => l a z⟩ (fun _ h => h), reps_d ((d_reps h2).less l)⟩
  | ins c fs ws =>
    obtain ⟨ds, rfl⟩ := allD_eq f
    obtain ⟨dx, vs, h1, nd, h2, h3, h4⟩ := h
    exact ⟨dx, vs, h1, fun z => nd (l _ z), h2, h3, reps_d ((d_reps h4).less l)⟩
def back (n : Nat) (S : Sto) : Res W → Res W
  | .ok w (o :: S') => (match flatO 1 (o :: S') o, toD 1 (o :: S') w with
    | some o', some x => .ok (.d x) (S.set n o')
    | _, _ => .no)
  | .ex c fs ws (o :: S') => (match flatO 1 (o :: S') o, mapO (toD 1 (o :: S')) ws with
    | some o', some xs => .ex c fs (xs.map .d) (S.set n o')
    | _, _ => .no)
  | _ => .no
def callO (m : MF) (ws : List W) (S : Sto) : Res W := match ws with
  | .loc n :: rs => (match S[n]?, onlyD rs with
    | some o, some ds => if o.flat = true then back n S (m (.loc 0 :: ds.map .d) [o]) else .no
    | _, _ => .no)
  | _ => .no
theorem back_rel {n : Nat} {a : Addr} {o o' o2 : O} {α' : List Addr} {S' : Sto} {H' : Hp} (r : Rel G F α S H) (ea : α[n]? = some a) (eo : S[n]? = some o) (fo : o.flat = true)
    (r' : Rel G (fun b => F b ∨ own α S b ∧ b ≠ a) α' (o' :: S') H') (s' : Stp [a] [o] H α' (o' :: S') H') (eo2 : flatO 1 (o' :: S') o' = some o2) :
    Rel G F α (S.set n o2) H' ∧ Stp α S H α (S.set n o2) H' ∧ (∀ b, XX F α (S.set n o2) b → XX (fun b => F b ∨ own α S b ∧ b ≠ a) α' (o' :: S') b) ∧ ∀ (k : Nat) b, α'[k]? = some b → 1 ≤ k → ¬ XX F α (S.set n o2) b := by
  obtain ⟨t, et⟩ := s'.pre
  have ea' : α'[0]? = some a := by rw [← et]; rfl
  have hn : n < S.length := (List.getElem?_eq_some_iff.mp eo).1
  have oa : own α S a := ⟨n, o, ea, eo, O.flat_own fo⟩
  have na : ∀ {b}, own [a] [o] b → b = a := fun {b} ⟨i, u, h1, h2, _⟩ => by
    cases i with
    | zero => simp at h1; exact h1.symm
    | succ i => simp at h1
  -- who is owned afterwards
  have ow : ∀ b, own α (S.set n o2) b → own α S b := fun b ⟨i, u, h1, h2, h3⟩ => by
    by_cases hi : n = i
    · subst hi; rw [ea] at h1; cases h1; exact oa
    · rw [List.getElem?_set_ne hi] at h2; exact ⟨i, u, h1, h2, h3⟩
  have l : ∀ b, XX F α (S.set n o2) b → XX (fun b => F b ∨ own α S b ∧ b ≠ a) α' (o' :: S') b := fun b z => by
    by_cases hb : b = a
    · subst hb; exact .inr ⟨0, o', ea', rfl, (flatO_own eo2).1⟩
    · rcases z with z | z
      · exact .inl (.inl z)
      · exact .inl (.inr ⟨ow b z, hb⟩)
  have off : ∀ (k : Nat) b, α'[k]? = some b → 1 ≤ k → ¬ XX F α (S.set n o2) b := fun k b ek hk z => by
    have hb : b ≠ a := fun e => by
      subst e
      have := nodup_at r'.nd ek ea'
      omega
    refine r'.fr b ?_ (List.mem_of_getElem? ek)
    rcases z with z | z
    · exact .inl z
    · exact .inr ⟨ow b z, hb⟩
  have kp : ∀ c u, H c = some u → c ≠ a → H' c = some u := fun c u e hc => s'.keep c u e fun z => hc (na z)
  have st : Stp α S H α (S.set n o2) H' := ⟨⟨[], by simp⟩, fun c u e hc => kp c u e fun z => hc (z ▸ oa), fun c u e z => ow c z⟩
  refine ⟨⟨by rw [List.length_set]; exact r.len, r.nd, r.fr, fun b hb => ?_, fun i b eb => ?_, fun i b u eb eu => ?_⟩, st, l, off⟩
  · obtain ⟨u, e⟩ := r.fd b hb
    exact ⟨u, kp b u e fun z => r.noF ea (z ▸ hb)⟩
  · by_cases hb : b = a
    · subst hb; exact r'.ad 0 b ea'
    · obtain ⟨u, e⟩ := r.ad i b eb
      exact ⟨u, kp b u e hb⟩
  · by_cases hi : n = i
    · subst hi
      rw [ea] at eb; cases eb
      rw [List.getElem?_set_self hn] at eu; cases eu
      exact flatO_at r' l off (r'.obj 0 a o' ea' rfl) eo2
    · rw [List.getElem?_set_ne hi] at eu
      have hb : b ≠ a := fun e => hi (nodup_at r.nd ea (e ▸ eb))
      exact (r.obj i b u eb eu).stay st.stay ⟨[], by simp⟩ fun v e _ => kp b v e hb
theorem callO_ok (r : Rel G F α S H) (h : RepWs G H (XX F α S) α ws vs) (f : Fin (rW G) G F α S H Q E (callO m ws S)) : spM G m vs H Q E := by
  unfold callO at f
  split at f
  · rename_i n rs
    split at f
    · rename_i o ds eo ed
      split at f
      · rename_i fo
        unfold RepWs at h
        obtain ⟨v0, vr, rfl, h1, h2⟩ := h
        unfold RepW at h1
        obtain ⟨a, ea, rfl⟩ := h1
        rw [onlyD_eq ed] at h2
        have oa : own α S a := ⟨n, o, ea, eo, O.flat_own fo⟩
        have lX : ∀ b, XX (fun b => F b ∨ own α S b ∧ b ≠ a) [a] [o] b → XX F α S b := fun b z => by
          rcases z with (z | z) | ⟨i, u, e1, e2, e3⟩
          · exact .inl z
          · exact .inr z.1
          · cases i with
            | zero => simp at e1; subst e1; exact .inr oa
            | succ i => simp at e1
        have r0 : Rel G (fun b => F b ∨ own α S b ∧ b ≠ a) [a] [o] H := by
          refine ⟨rfl, by simp, fun b z hb => ?_, fun b z => ?_, fun i b e1 => ?_, fun i b u e1 e2 => ?_⟩
          · have : b = a := by simpa using hb
            subst this
            rcases z with z | z
            · exact r.noF ea z
            · exact z.2 rfl
          · rcases z with z | z
            · exact r.fd b z
            · exact r.own_at z.1
          · cases i with
            | zero => simp at e1; subst e1; exact r.ad n _ ea
            | succ i => simp at e1
          · cases i with
            | zero => simp at e1 e2; subst e1 e2; exact flat_at fo lX (r.obj n a o ea eo)
            | succ i => simp at e1
        refine ⟨_, [a], [o], .loc 0 :: ds.map .d, r0, RepWs.mkC (by unfold RepW; exact ⟨a, rfl, rfl⟩) (reps_d ((d_reps h2).less lX)), ?_⟩
        cases em : m (.loc 0 :: ds.map .d) [o] with
        | no => rw [em] at f; exact f
        | ok w S' =>
          rw [em] at f
          intro α' H' v r' s' h'
          cases S' with
          | nil => exact f.elim
          | cons o' S' =>
            unfold back at f
            dsimp only at f
            split at f
            · rename_i o2 x e1 e2
              obtain ⟨rb, sb, l, off⟩ := back_rel r ea eo fo r' s' e1
              exact f α H' v rb sb (rw_d (toDf_rep r' l off 4 h' e2))
            · exact f.elim
        | ex c fs xs S' =>
          rw [em] at f
          intro α' H' d r' s' h'
          cases S' with
          | nil => exact f.elim
          | cons o' S' =>
            unfold back at f
            dsimp only at f
            split at f
            · rename_i o2 x e1 e2
              obtain ⟨rb, sb, l, off⟩ := back_rel r ea eo fo r' s' e1
              refine f α H' d rb sb ?_
              rcases h' with ⟨e3, e4, e5⟩ | ⟨b, us, e3, nb, h1, h2, h3⟩
              · subst e5; cases e2; exact .inl ⟨e3, e4, rfl⟩
              · exact .inr ⟨b, us, e3, fun z => nb (l b z), h1, h2, reps_d (toDfs_rep r' l off 4 h3 e2)⟩
            · exact f.elim
      · exact f.elim
    · exact f.elim
  · exact f.elim
theorem callK_ok (r : Rel G F α S H) (h : RepWs G H (XX F α S) α ws vs) (f : Fin (rW G) G F α S H Q E (m ws S)) : spM G m vs H Q E := ⟨F, α, S, ws, r, h, f⟩
def newP (c : Str) (m : MF) (ws : List W) (S : Sto) : Res W := match onlyD ws with
  | some ds => (match m (.loc 0 :: ds.map .d) [.ins c [] []] with
    | .ok (.d .non) S' => (match toD 0 S' (.loc 0) with
      | some x => .ok (.d x) S
      | none => .no)
    | .ex c fs ws S' => (match mapO (toD 0 S') ws with
      | some xs => .ex c fs (xs.map .d) S
      | none => .no)
    | _ => .no)
  | none => .no
def newO (c : Str) (m : MF) (ws : List W) (S : Sto) : Res W := match onlyD ws with
  | some ds => (match m (.loc 0 :: ds.map .d) [.ins c [] []] with
    | .ok (.d .non) (o :: S') => (match flatO 1 (o :: S') o with
      | some o' => .ok (.loc S.length) (S ++ [o'])
      | none => .no)
    | .ex c fs ws S' => (match mapO (toD 0 S') ws with
      | some xs => .ex c fs (xs.map .d) S
      | none => .no)
    | _ => .no)
  | none => .no
theorem new_rel (c : Str) (r : Rel G F α S H) {x dx : Addr} (nx : H x = none) (nd : H dx = none) (ne : dx ≠ x) : Rel G (XX F α S) [x] [.ins c [] []] (upd (upd H dx (.own x)) x (.ins (ga G.K c) dx [])) ∧ Same H (upd (upd H dx (.own x)) x (.ins (ga G.K c) dx [])) := by
  have sm : Same H (upd (upd H dx (.own x)) x (.ins (ga G.K c) dx [])) := fun a o e => by
    rw [upd_ne (ne_of_none e nx), upd_ne (ne_of_none e nd)]; exact e
  refine ⟨⟨rfl, by simp, fun a z hz => ?_, fun a z => ?_, fun i a e1 => ?_, fun i a o e1 e2 => ?_⟩, sm⟩
  · have : a = x := by simpa using hz
    subst this
    exact r.fresh nx z
  · obtain ⟨o, e⟩ := r.xd z
    exact ⟨o, sm _ _ e⟩
  · cases i with
    | zero => simp at e1; subst e1; exact ⟨_, upd_same⟩
    | succ i => simp at e1
  · cases i with
    | zero =>
      simp at e1 e2; subst e1 e2
      refine ⟨dx, [], upd_same, fun z => ?_, by rw [upd_ne ne, upd_same], rfl, by unfold RepWs; rfl⟩
      rcases z with z | ⟨i, u, e1, e2, e3⟩
      · exact r.fresh nd z
      · cases i with
        | zero => simp at e1; exact ne e1.symm
        | succ i => simp at e1
    | succ i => simp at e1
theorem same_of {x : Addr} {o : O} {α' : List Addr} {S' : Sto} {H1 H' : Hp} (sm : Same H H1) (nx : H x = none) (s' : Stp [x] [o] H1 α' S' H') : Same H H' := fun a u e => s'.keep a u (sm a u e) fun ⟨i, v, e1, e2, e3⟩ => by
  cases i with
  | zero => simp at e1; subst e1; rw [nx] at e; cases e
  | succ i => simp at e1
theorem xx_one {x : Addr} {o : O} {Y : Addr → Prop} (d : List D) {vs : List V} (h : Reps G H Y d vs) (H1 : Hp) (sm : Same H H1) (nx : H x = none) : Reps G H1 (XX Y [x] [o]) d vs :=
  h.stay ⟨fun a u e _ => sm a u e, fun a u e z => z.elim id fun ⟨i, v, e1, e2, e3⟩ => by
    cases i with
    | zero => simp at e1; subst e1; rw [nx] at e; cases e
    | succ i => simp at e1⟩
theorem newP_ok {c : Str} (r : Rel G F α S H) (h : RepWs G H (XX F α S) α ws vs) (f : Fin (rW G) G F α S H Q E (newP c m ws S)) : ∀ x dx, H x = none → H dx = none → dx ≠ x →
    spM G m (.ref x :: vs) (upd (upd H dx (.own x)) x (.ins (ga G.K c) dx [])) (fun v H2 => v = .non ∧ Q (.ref x) H2) E := by
  intro x dx nx nd ne
  unfold newP at f
  split at f
  · rename_i ds ed
    rw [onlyD_eq ed] at h
    obtain ⟨r0, sm⟩ := new_rel c r nx nd ne
    refine ⟨XX F α S, [x], [.ins c [] []], .loc 0 :: ds.map .d, r0, RepWs.mkC (by unfold RepW; exact ⟨x, rfl, rfl⟩) (reps_d (xx_one ds (d_reps h) _ sm nx)), ?_⟩
    cases em : m (.loc 0 :: ds.map .d) [.ins c [] []] with
    | no => rw [em] at f; exact f
    | ok w S' =>
      rw [em] at f
      intro α' H' v r' s' h'
      have sm' := same_of sm nx s'
      split at f
      · rename_i ex
        cases ex
        split at f
        · rename_i y ey
          obtain ⟨t, et⟩ := s'.pre
          have e0 : RepW G H' (XX (XX F α S) α' S') α' (.loc 0) (.ref x) := by unfold RepW; exact ⟨x, by rw [← et]; rfl, rfl⟩
          refine ⟨by unfold RepW Rep at h'; exact h', f α H' _ (r.same sm') (Stp.same sm') (rw_d (toDf_rep r' (fun _ z => .inl z) (fun n a e _ => r'.noF e) 4 e0 ey))⟩
        · exact f.elim
      · rename_i ex
        cases ex
      · exact f.elim
    | ex c' fs xs S' =>
      rw [em] at f
      intro α' H' d r' s' h'
      have sm' := same_of sm nx s'
      dsimp only at f
      split at f
      · rename_i ys ey
        refine f α H' d (r.same sm') (Stp.same sm') ?_
        rcases h' with ⟨e3, e4, e5⟩ | ⟨b, us, e3, nb, h1, h2, h3⟩
        · subst e5; cases ey; exact .inl ⟨e3, e4, rfl⟩
        · exact .inr ⟨b, us, e3, fun z => nb (.inl z), h1, h2, reps_d (toDfs_rep r' (fun _ z => .inl z) (fun n a e _ => r'.noF e) 4 h3 ey)⟩
      · exact f.elim
  · exact f.elim
theorem rel_snoc {x : Addr} {o : O} {H' : Hp} (r : Rel G F α S H) (sm : Same H H') (nx : H x = none) (ho : ∃ u, H' x = some u) (h : ObjAt G H' (XX F (α ++ [x]) (S ++ [o])) (α ++ [x]) x o) : Rel G F (α ++ [x]) (S ++ [o]) H' ∧ Stp α S H (α ++ [x]) (S ++ [o]) H' := by
  have hlen : α.length = S.length := r.len
  have ow : ∀ b u, H b = some u → own (α ++ [x]) (S ++ [o]) b → own α S b := fun b u e ⟨i, v, e1, e2, e3⟩ => by
    by_cases hi : i < α.length
    · rw [List.getElem?_append_left hi] at e1
      rw [List.getElem?_append_left (by omega)] at e2
      exact ⟨i, v, e1, e2, e3⟩
    · rw [List.getElem?_append_right (by omega)] at e1
      have : b = x := by
        have := List.mem_of_getElem? e1
        simpa using this
      subst this
      rw [nx] at e; cases e
  have st : Stp α S H (α ++ [x]) (S ++ [o]) H' := ⟨⟨[x], rfl⟩, fun a u e _ => sm a u e, fun a u e z => ow a u e z⟩
  refine ⟨⟨by simp [hlen], ?_, fun a z hz => ?_, fun a z => ?_, fun i a e => ?_, fun i a u e1 e2 => ?_⟩, st⟩
  · rw [List.nodup_append]
    refine ⟨r.nd, by simp, fun a ha b hb => ?_⟩
    have : b = x := by simpa using hb
    subst this
    rintro rfl
    obtain ⟨i, hi⟩ := List.getElem?_of_mem ha
    obtain ⟨u, e⟩ := r.ad i _ hi
    rw [nx] at e; cases e
  · rcases List.mem_append.mp hz with hz | hz
    · exact r.fr a z hz
    · have : a = x := by simpa using hz
      subst this
      obtain ⟨u, e⟩ := r.fd a z
      rw [nx] at e; cases e
  · obtain ⟨u, e⟩ := r.fd a z
    exact ⟨u, sm _ _ e⟩
  · by_cases hi : i < α.length
    · rw [List.getElem?_append_left hi] at e
      obtain ⟨u, e⟩ := r.ad i a e
      exact ⟨u, sm _ _ e⟩
    · rw [List.getElem?_append_right (by omega)] at e
      have : a = x := by
        have := List.mem_of_getElem? e
        simpa using this
      subst this
      exact ho
  · by_cases hi : i < α.length
    · rw [List.getElem?_append_left hi] at e1
      rw [List.getElem?_append_left (by omega)] at e2
      exact (r.obj i a u e1 e2).stay st.stay st.pre fun v e _ => sm _ _ e
    · rw [List.getElem?_append_right (by omega)] at e1 e2
      have hi0 : i - α.length = 0 := by
        have := (List.getElem?_eq_some_iff.mp e1).1
        simp at this; omega
      have hi1 : i - S.length = 0 := by omega
      rw [hi0] at e1; rw [hi1] at e2
      simp at e1 e2
      subst e1 e2
      exact h
theorem newO_ok {c : Str} (r : Rel G F α S H) (h : RepWs G H (XX F α S) α ws vs) (f : Fin (rW G) G F α S H Q E (newO c m ws S)) : ∀ x dx, H x = none → H dx = none → dx ≠ x →
    spM G m (.ref x :: vs) (upd (upd H dx (.own x)) x (.ins (ga G.K c) dx [])) (fun v H2 => v = .non ∧ Q (.ref x) H2) E := by
  intro x dx nx nd ne
  unfold newO at f
  split at f
  · rename_i ds ed
    rw [onlyD_eq ed] at h
    obtain ⟨r0, sm⟩ := new_rel c r nx nd ne
    refine ⟨XX F α S, [x], [.ins c [] []], .loc 0 :: ds.map .d, r0, RepWs.mkC (by unfold RepW; exact ⟨x, rfl, rfl⟩) (reps_d (xx_one ds (d_reps h) _ sm nx)), ?_⟩
    cases em : m (.loc 0 :: ds.map .d) [.ins c [] []] with
    | no => rw [em] at f; exact f
    | ok w S' =>
      rw [em] at f
      intro α' H' v r' s' h'
      have sm' := same_of sm nx s'
      split at f
      · rename_i o1 S1 ex
        cases ex
        split at f
        · rename_i y ey
          obtain ⟨t, et⟩ := s'.pre
          have e0 : α'[0]? = some x := by rw [← et]; rfl
          have lx : ∀ b, XX F (α ++ [x]) (S ++ [y]) b → XX (XX F α S) α' (o1 :: S1) b := fun b z => by
            by_cases hb : b = x
            · subst hb; exact .inr ⟨0, _, e0, rfl, (flatO_own ey).1⟩
            · rcases z with z | ⟨i, u, e1, e2, e3⟩
              · exact .inl (.inl z)
              · by_cases hi : i < α.length
                · rw [List.getElem?_append_left hi] at e1
                  rw [List.getElem?_append_left (by have := r.len; omega)] at e2
                  exact .inl (.inr ⟨i, u, e1, e2, e3⟩)
                · rw [List.getElem?_append_right (by omega)] at e1
                  exact absurd (by simpa using List.mem_of_getElem? e1) hb
          have off : ∀ (k : Nat) b, α'[k]? = some b → 1 ≤ k → ¬ XX F (α ++ [x]) (S ++ [y]) b := fun k b ek hk z => by
            have hb : b ≠ x := fun e => by
              subst e
              have := nodup_at r'.nd ek e0
              omega
            refine r'.fr b ?_ (List.mem_of_getElem? ek)
            rcases z with z | ⟨i, u, e1, e2, e3⟩
            · exact .inl z
            · by_cases hi : i < α.length
              · rw [List.getElem?_append_left hi] at e1
                rw [List.getElem?_append_left (by have := r.len; omega)] at e2
                exact .inr ⟨i, u, e1, e2, e3⟩
              · rw [List.getElem?_append_right (by omega)] at e1
                exact absurd (by simpa using List.mem_of_getElem? e1) hb
          obtain ⟨r2, s2⟩ := rel_snoc (o := y) r sm' nx (r'.ad 0 x e0) (flatO_at r' lx off (r'.obj 0 x _ e0 rfl) ey)
          refine ⟨by unfold RepW Rep at h'; exact h', f (α ++ [x]) H' _ r2 s2 (by unfold rW RepW; exact ⟨x, by rw [← r.len]; simp, rfl⟩)⟩
        · exact f.elim
      · rename_i ex
        cases ex
      · exact f.elim
    | ex c' fs xs S' =>
      rw [em] at f
      intro α' H' d r' s' h'
      have sm' := same_of sm nx s'
      dsimp only at f
      split at f
      · rename_i ys ey
        refine f α H' d (r.same sm') (Stp.same sm') ?_
        rcases h' with ⟨e3, e4, e5⟩ | ⟨b, us, e3, nb, h1, h2, h3⟩
        · subst e5; cases ey; exact .inl ⟨e3, e4, rfl⟩
        · exact .inr ⟨b, us, e3, fun z => nb (.inl z), h1, h2, reps_d (toDfs_rep r' (fun _ z => .inl z) (fun n a e _ => r'.noF e) 4 h3 ey)⟩
      · exact f.elim
  · exact f.elim
end
end Mi
set_option Elab.async false
set_option linter.all false
set_option maxRecDepth 100000
set_option maxHeartbeats 4000000
namespace Mi
open PySem PySem.Spec PyProof.Rows L2 He Wl
def Way (G : Gx) (sp : Sp) (kk : MF) : Prop := ∀ F α S H ws vs Q E, Rel G F α S H → RepWs G H (XX F α S) α ws vs → Fin (rW G) G F α S H Q E (kk ws S) → sp vs H Q E
theorem wayP {G : Gx} {m : MF} : Way G (spM G m) (callP m) := fun _ _ _ _ _ _ _ _ r h f => callP_ok r h f
theorem wayO {G : Gx} {m : MF} : Way G (spM G m) (callO m) := fun _ _ _ _ _ _ _ _ r h f => callO_ok r h f
theorem wayK {G : Gx} {m : MF} : Way G (spM G m) m := fun _ _ _ _ _ _ _ _ r h f => callK_ok r h f
def WayN (G : Gx) (C : Addr) (sp : Sp) (kk : MF) : Prop := ∀ F α S H ws vs Q E, Rel G F α S H → RepWs G H (XX F α S) α ws vs → Fin (rW G) G F α S H Q E (kk ws S) → ∀ x dx, H x = none → H dx = none → dx ≠ x →
  sp (.ref x :: vs) (upd (upd H dx (.own x)) x (.ins C dx [])) (fun v H2 => v = .non ∧ Q (.ref x) H2) E
theorem wayNP {G : Gx} {c : Str} {m : MF} : WayN G (ga G.K c) (spM G m) (newP c m) := fun _ _ _ _ _ _ _ _ r h f => newP_ok r h f
theorem wayNO {G : Gx} {c : Str} {m : MF} : WayN G (ga G.K c) (spM G m) (newO c m) := fun _ _ _ _ _ _ _ _ r h f => newO_ok r h f
def apM (kk : MF) (mr : MA) : ME := fun τ S => (mr τ S).bind fun ws S1 => kk ws S1
section
variable {X : Cx} {Wx : WX} {a b c e o : Expr} {es : List Expr} {pos apos p : Pos} {m mo : ME} {mr : MA} {k : Nat} {f C : Addr} {sp : Sp} {kk : MF} {x mn fn : Str}
theorem run_T {pins : List (Addr × Obj)} {σ : L2.St} {H : Hp} {s : Shared} {Q : VK} {us : List Value} {vs : List V} (F : FnR X.prog X.w X.K X.mg X.base (L2.CX X.prog X.w) k f sp) (hr : Room k X.A) (tk : Takes X Wx) (I : Inv X pins σ H s) (r : Vals vs us) (h : sp vs H Q fun c d H' => Wx c d σ H') :
    codeAny (model X.prog X.w) X.A (.call (.ref f) ⟨us, []⟩) (fun r s' => match r with | .ok (.ret v) => EP X pins σ Q v s' | .ok _ => False | .error e => X.xe e s') s := by
  refine codeAny_mono (F X.A X.stack s H us vs Q _ hr I.env0 r h) fun r s' hq => ?_
  cases r with
  | error e => exact tk e s' (XE.of_call I (fun cls d H' h => h) hq)
  | ok fl =>
    cases fl with
    | ret u => exact I.after hq
    | next => exact False.elim hq
    | brk => exact False.elim hq
    | cont => exact False.elim hq
theorem pe_callW {t : TA} (F : FnR X.prog X.w X.K X.mg X.base (L2.CX X.prog X.w) k f sp) (hr : Room k X.A) (hk : PySem.W.keepIn X.K (.ref f) = true) (hg : Gl X x) (hm : X.mg x = some (.ref f)) (tk : Takes X Wx) (ha : PA X (e :: es) t)
    (hdb : (x == ("__debug__" : Str)) = false := by decide) (he : starEach (e :: es) X.env = (false, eval e X.env) :: starEach es X.env := by rfl) (hpl : (backTo pos (starEach es X.env)).any (·.1) = false := by rfl) :
    PE X (.Call (.Name x p) (e :: es) [] pos) (fun σ H Q => t σ H fun vs H1 => sp vs H1 Q fun c d H' => Wx c d σ H') := by
  refine ⟨fun pins s σ H Q I h => ?_⟩
  refine wpAny_Call_Name_kw (ld_glob I hg hm ?_ hdb)
  refine PySem.W.callWith_K (h₀ := X.base) I.ok.mod.kin hk (thn (ha.run pos pins s σ H _ I h) fun us s1 ⟨vs, H1, I1, r, q⟩ => ⟨I1.kIn, ?_⟩) he hpl
  exact wpAny_call (run_T F hr tk I1 r q)
theorem tA_way (w : Way X.gx sp kk) {σ : L2.St} {H : Hp} {Q : VK} (h : tE X Wx (apM kk mr) σ H Q) : tAr X Wx mr σ H fun vs H1 => sp vs H1 Q fun c d H' => Wx c d σ H' :=
  tM_then (R1 := rWs X.gx) (k := fun ws _ S1 => kk ws S1) h fun v H1 ⟨F, α, S, τ, b1, r, sl, q1, f⟩ => w F α S H1 b1 v Q _ r q1 f
theorem me_call (w : Way X.gx sp kk) (F : FnR X.prog X.w X.K X.mg X.base (L2.CX X.prog X.w) k f sp) (hr : Room k X.A) (hk : PySem.W.keepIn X.K (.ref f) = true) (hg : Gl X x) (hm : X.mg x = some (.ref f)) (tk : Takes X Wx) (ha : EA X Wx (e :: es) mr)
    (hdb : (x == ("__debug__" : Str)) = false := by decide) (he : starEach (e :: es) X.env = (false, eval e X.env) :: starEach es X.env := by rfl) (hpl : (backTo pos (starEach es X.env)).any (·.1) = false := by rfl) :
    EE X Wx (.Call (.Name x p) (e :: es) [] pos) (apM kk mr) := PE.imp (pe_callW F hr hk hg hm tk ha hdb he hpl) fun σ H Q h => tA_way w h
theorem me_call0 (w : Way X.gx sp kk) (F : FnR X.prog X.w X.K X.mg X.base (L2.CX X.prog X.w) k f sp) (hr : Room k X.A) (hk : PySem.W.keepIn X.K (.ref f) = true) (hg : Gl X x) (hm : X.mg x = some (.ref f)) (tk : Takes X Wx)
    (hdb : (x == ("__debug__" : Str)) = false := by decide) : EE X Wx (.Call (.Name x p) [] [] pos) (apM kk aN) := by
  refine ⟨fun pins s σ H Q I h => ?_⟩
  refine wpAny_Call_Name_kw (ld_glob I hg hm ?_ hdb)
  obtain ⟨F', α, S, τ, r, sl, f⟩ := h
  exact PySem.W.callWith_K0 I.kIn hk (wpAny_call (run_T (us := []) F hr tk I .nil (w F' α S H [] [] Q _ r (by unfold RepWs; rfl) f)))
theorem run_makeT {pins : List (Addr × Obj)} {σ : L2.St} {H : Hp} {s : Shared} {Q : VK} {us : List Value} {vs : List V} (M : Mk X.K C f) (F : FnR X.prog X.w X.K X.mg X.base (L2.CX X.prog X.w) k f sp) (hr : Room (k + 1) X.A)
    (tk : Takes X Wx) (I : Inv X pins σ H s) (r : Vals vs us)
    (h : ∀ x dx, H x = none → H dx = none → dx ≠ x → sp (.ref x :: vs) (upd (upd H dx (.own x)) x (.ins C dx [])) (fun v H2 => v = .non ∧ Q (.ref x) H2) fun c d H' => Wx c d σ H') :
    wpAny (model X.prog X.w) X.A (call (.ref C) us) (EP X pins σ Q) X.xe s := by
  have hq := h (s.heap.objs.size + 1) s.heap.objs.size (I.hok.fresh (Nat.le_succ _)) (I.hok.fresh (Nat.le_refl _)) (Nat.ne_of_lt (Nat.lt_succ_self _))
  have I2 := Inv.made (C := C) I
  have r2 : Vals (V.ref (s.heap.objs.size + 1) :: vs) (Value.ref (s.heap.objs.size + 1) :: us) := .cons rfl r
  refine wpAny_call (make_map (f := f) I.kIn M.makes M.init (beq_iff_eq.mp M.fn) (codeAny_mono (F _ X.stack _ _ (Value.ref (s.heap.objs.size + 1) :: us) (V.ref (s.heap.objs.size + 1) :: vs) _ _ (hr.make C us [])
    (I2.env0.make C us []) r2 hq) fun r s' hq' => ?_))
  cases r with
  | error e => exact tk e s' (XE.of_call I2 (fun cls d H' h => h) hq')
  | ok fl =>
    cases fl with
    | ret u =>
      obtain ⟨v, H', I3, rv, ev, q3⟩ := I2.after hq'
      subst ev
      exact ⟨rv, ⟨V.ref (s.heap.objs.size + 1), H', I3, rfl, q3⟩⟩
    | next => exact False.elim hq'
    | brk => exact False.elim hq'
    | cont => exact False.elim hq'
theorem me_new (w : WayN X.gx C sp kk) (M : Mk X.K C f) (F : FnR X.prog X.w X.K X.mg X.base (L2.CX X.prog X.w) k f sp) (hr : Room (k + 1) X.A) (hg : Gl X x) (hm : X.mg x = some (.ref C)) (tk : Takes X Wx) (ha : EA X Wx (e :: es) mr)
    (hdb : (x == ("__debug__" : Str)) = false := by decide) (he : starEach (e :: es) X.env = (false, eval e X.env) :: starEach es X.env := by rfl) (hpl : (backTo pos (starEach es X.env)).any (·.1) = false := by rfl) :
    EE X Wx (.Call (.Name x p) (e :: es) [] pos) (apM kk mr) := by
  refine ⟨fun pins s σ H Q I h => ?_⟩
  refine wpAny_Call_Name_kw (ld_glob I hg hm ?_ hdb)
  have h1 : tAr X Wx mr σ H fun vs H1 => ∀ x dx, H1 x = none → H1 dx = none → dx ≠ x → sp (.ref x :: vs) (upd (upd H1 dx (.own x)) x (.ins C dx [])) (fun v H2 => v = .non ∧ Q (.ref x) H2) fun c d H' => Wx c d σ H' :=
    tM_then (R1 := rWs X.gx) (k := fun ws _ S1 => kk ws S1) h fun v H1 ⟨F, α, S, τ, b1, r, sl, q1, f⟩ => w F α S H1 b1 v Q _ r q1 f
  refine PySem.W.callWith_K (h₀ := X.base) I.ok.mod.kin M.kp (thn (ha.run pos pins s σ H _ I h1) fun us s1 ⟨vs, H1, I1, r, q⟩ => ⟨I1.kIn, ?_⟩) he hpl
  exact run_makeT M F hr tk I1 r q
def apV (i : Nat) (x : Str) (kk : MF) (mr : MA) : ME := fun τ S => match τ[i]? with
  | some (some (.d (.gl y))) => if y = x then apM kk mr τ S else .no
  | _ => .no
theorem me_newV {i : Nat} {cn : Str} (w : WayN X.gx (ga X.K cn) sp kk) (M : Mk X.K (ga X.K cn) f) (F : FnR X.prog X.w X.K X.mg X.base (L2.CX X.prog X.w) k f sp) (hr : Room (k + 1) X.A) (hN : X.N[i]? = some x) (hv : Vis X.env.scope x) (tk : Takes X Wx) (ha : EA X Wx (e :: es) mr)
    (hd : (x == ("__debug__" : Str)) = false := by decide) (hcd : (x == ("__classdict__" : Str)) = false := by decide) (he : starEach (e :: es) X.env = (false, eval e X.env) :: starEach es X.env := by rfl) (hpl : (backTo pos (starEach es X.env)).any (·.1) = false := by rfl) :
    EE X Wx (.Call (.Name x p) (e :: es) [] pos) (apV i cn kk mr) := by
  refine ⟨fun pins s σ H Q I h => ?_⟩
  obtain ⟨F0, α, S, τ, r0, sl, f0⟩ := h
  unfold apV at f0
  split at f0
  · rename_i y ei
    split at f0
    · rename_i ey
      subst ey
      obtain ⟨v, ev, rv⟩ := sl.at_ i _ ei
      unfold RepW Rep at rv
      subst rv
      have h : tE X Wx (apM kk mr) σ H Q := ⟨F0, α, S, τ, r0, sl, f0⟩
      refine wpAny_Call_Name_kw (thn ((pe_var (pos := p) (i := i) hN hv hd hcd).run pins s σ H (fun v H1 => v = .ref (ga X.K y) ∧ H1 = H) I ⟨_, ev, rfl, rfl⟩) fun u s1 ⟨v, H1, I1, r1, ev, eH⟩ => ?_)
      subst ev eH
      cases r1
      have h1 : tAr X Wx mr σ H1 fun vs H1 => ∀ x dx, H1 x = none → H1 dx = none → dx ≠ x → sp (.ref x :: vs) (upd (upd H1 dx (.own x)) x (.ins (ga X.K y) dx [])) (fun v H2 => v = .non ∧ Q (.ref x) H2) fun c d H' => Wx c d σ H' :=
        tM_then (R1 := rWs X.gx) (k := fun ws _ S1 => kk ws S1) h fun v H1 ⟨F, α, S, τ, b1, r, sl, q1, f⟩ => w F α S H1 b1 v Q _ r q1 f
      refine PySem.W.callWith_K (h₀ := X.base) I.ok.mod.kin M.kp (thn (ha.run pos pins s1 σ _ _ I1 h1) fun us s2 ⟨vs, H2, I2, r, q⟩ => ⟨I2.kIn, ?_⟩) he hpl
      exact run_makeT M F hr tk I2 r q
    · exact f0.elim
  · exact f0.elim
def W.inst (S : Sto) : W → Option (Str × List Str × List W)
  | .d (.ins c fs vs) => some (c, fs, vs.map .d)
  | .loc n => match S[n]? with
    | some (.ins c fs ws) => some (c, fs, ws)
    | some (.fz (.ins c fs vs)) => some (c, fs, vs.map .d)
    | _ => none
  | _ => none
theorem W.inst_at {F : Addr → Prop} {G : Gx} {α : List Addr} {S : Sto} {H : Hp} {w : W} {v : V} {c : Str} {fs : List Str} {ws : List W} (r : Rel G F α S H) (h : RepW G H (XX F α S) α w v) (e : w.inst S = some (c, fs, ws)) :
    ∃ a dx vs, v = .ref a ∧ H a = some (.ins (ga G.K c) dx (fs.zip vs)) ∧ fs.length = vs.length ∧ RepWs G H (XX F α S) α ws vs := by
  have plain : ∀ {c : Str} {fs : List Str} {xs : List D} {v : V}, Rep G H (XX F α S) (.ins c fs xs) v → ∃ a dx vs, v = .ref a ∧ H a = some (.ins (ga G.K c) dx (fs.zip vs)) ∧ fs.length = vs.length ∧ RepWs G H (XX F α S) α (xs.map .d) vs := fun {c fs xs v} h => by
    unfold Rep at h
    obtain ⟨a, dx, vs, e, _, _, h1, _, h2, h3⟩ := h
    exact ⟨a, dx, vs, e, h1, h2, reps_d h3⟩
  unfold W.inst at e
  split at e
  · cases e
    unfold RepW at h
    exact plain h
  · rename_i n
    unfold RepW at h
    obtain ⟨a, ea, rfl⟩ := h
    split at e
    · rename_i es
      cases e
      obtain ⟨dx, vs, h1, _, _, h2, h3⟩ := r.obj n a _ ea es
      exact ⟨a, dx, vs, rfl, h1, h2, h3⟩
    · rename_i es
      cases e
      exact plain (r.obj n a _ ea es)
    · cases e
  · cases e
def mtM (c mn : Str) (kk : MF) (o : ME) (mr : MA) : ME := fun τ S => (o τ S).bind fun w S1 => match w.inst S1 with
  | some (c', fs, _) => if (decide (c' = c) && !fs.contains mn) = true then (mr τ S1).bind fun ws S2 => kk (w :: ws) S2 else .no
  | none => .no
theorem lookup_none {fs : List Str} {vs : List V} {x : Str} (h : fs.contains x = false) : (fs.zip vs).lookup x = none := by
  induction fs generalizing vs with
  | nil => rfl
  | cons f fs ih =>
    cases vs with
    | nil => rfl
    | cons v vs =>
      simp only [List.contains_cons, Bool.or_eq_false_iff] at h
      rw [List.zip_cons_cons, List.lookup_cons]
      rw [h.1]
      exact ih h.2
theorem tMeth_way {c : Str} (w : Way X.gx sp kk) {σ : L2.St} {H : Hp} {Q : VK} (h : tE X Wx (mtM c mn kk mo mr) σ H Q) : tE X Wx mo σ H fun x H1 => ∃ a dx fs, x = .ref a ∧ H1 a = some (.ins (ga X.K c) dx fs) ∧ fs.lookup mn = none ∧
    tAr X Wx mr σ H1 fun vs H2 => sp (x :: vs) H2 Q fun c d H' => Wx c d σ H' := by
  refine tM_then (R1 := rW X.gx) (k := fun w τ S1 => match w.inst S1 with
    | some (c', fs, _) => if (decide (c' = c) && !fs.contains mn) = true then (mr τ S1).bind fun ws S2 => kk (w :: ws) S2 else .no
    | none => .no) h fun v H1 ⟨F, α, S, τ, b1, r, sl, q1, f⟩ => ?_
  dsimp only at f
  split at f
  · rename_i c' fs ws ei
    split at f
    · rename_i hc
      simp only [Bool.and_eq_true, decide_eq_true_eq, Bool.not_eq_true'] at hc
      obtain ⟨rfl, hc⟩ := hc
      obtain ⟨a, dx, vs, e1, h1, _, _⟩ := W.inst_at r q1 ei
      refine ⟨a, dx, _, e1, h1, lookup_none hc, ?_⟩
      have hk : tK (rW X.gx) (rW X.gx) X.gx Wx (fun w τ S1 => (mr τ S1).bind fun ws S2 => kk (w :: ws) S2) v σ H1 Q := ⟨F, α, S, τ, b1, r, sl, q1, f⟩
      exact tK_then (R2 := rWs X.gx) (k := fun p _ S2 => kk (p.1 :: p.2) S2) (stay_W _) hk fun vs H2 ⟨F, α, S, τ, ⟨b1, b2⟩, r, sl, ⟨q1, q2⟩, f⟩ => w F α S H2 (b1 :: b2) (v :: vs) Q _ r (RepWs.mkC q1 q2) f
    · exact f.elim
  · exact f.elim
theorem me_meth {pl : Sem Bool} {c : Str} (w : Way X.gx sp kk) (ho : EE X Wx o mo) (cl : Cls X.K (ga X.K c)) (hm : Meth X.K (ga X.K c) mn f) (F : FnR X.prog X.w X.K X.mg X.base (L2.CX X.prog X.w) k f sp) (hr : Room k X.A) (tk : Takes X Wx) (ha : EA X Wx (e :: es) mr)
    (hst : starEach (e :: es) X.env = (false, eval e X.env) :: starEach es X.env := by rfl) (hpl : (backTo pos (starEach es X.env)).any (·.1) = false := by rfl)
    (ht : eval (.Call (.Attribute o mn apos) (e :: es) [] pos) X.env = (do
      let ov ← eval o X.env
      standAt apos.atName
      let (f, first) ← holding [ov] (getMethod ov mn pl)
      callWith pos f first (backTo pos (starEach (e :: es) X.env)) (backToKw pos (keywordEach [] X.env))) := by rfl) :
    EE X Wx (.Call (.Attribute o mn apos) (e :: es) [] pos) (mtM c mn kk mo mr) := by
  refine ⟨fun pins s σ H Q I h => ?_⟩
  refine PySem.W.methodCall_KW (pl := pl) (thn (ho.run pins s σ H _ I (tMeth_way w h)) fun u s1 ⟨x, H1, I1, rx, a, dx, fs, ex, ea, l, q⟩ => ?_) ht
  subst ex
  obtain rfl : u = Value.ref a := rx
  refine getmeth_ok I1 ea cl hm l ?_
  refine PySem.W.callWith_K (first := [.ref a]) (h₀ := X.base) I.ok.mod.kin hm.kp (thn (ha.run pos pins s1 σ H1 _ I1 q) fun us s2 ⟨vs, H2, I2, r, q2⟩ => ⟨I2.kIn, ?_⟩) hst hpl
  exact wpAny_call (run_T (us := .ref a :: us) (vs := .ref a :: vs) F hr tk I2 (.cons rfl r) q2)
theorem me_meth0 {pl : Sem Bool} {c : Str} (w : Way X.gx sp kk) (ho : EE X Wx o mo) (cl : Cls X.K (ga X.K c)) (hm : Meth X.K (ga X.K c) mn f) (F : FnR X.prog X.w X.K X.mg X.base (L2.CX X.prog X.w) k f sp) (hr : Room k X.A) (tk : Takes X Wx)
    (ht : eval (.Call (.Attribute o mn apos) [] [] pos) X.env = (do
      let ov ← eval o X.env
      standAt apos.atName
      let (f, first) ← holding [ov] (getMethod ov mn pl)
      callWith pos f first (backTo pos (starEach [] X.env)) (backToKw pos (keywordEach [] X.env))) := by rfl) :
    EE X Wx (.Call (.Attribute o mn apos) [] [] pos) (mtM c mn kk mo aN) := by
  refine ⟨fun pins s σ H Q I h => ?_⟩
  refine PySem.W.methodCall_KW (pl := pl) (thn (ho.run pins s σ H _ I (tMeth_way w h)) fun u s1 ⟨x, H1, I1, rx, a, dx, fs, ex, ea, l, q⟩ => ?_) ht
  subst ex
  obtain rfl : u = Value.ref a := rx
  refine getmeth_ok I1 ea cl hm l ?_
  obtain ⟨F1, α1, S1, τ1, r1, sl1, f1⟩ := q
  refine PySem.W.callWith_K0 (first := [.ref a]) I1.kIn hm.kp (wpAny_call (run_T (us := [.ref a]) (vs := [.ref a]) F hr tk I1 (.cons rfl .nil) ?_))
  exact f1 α1 H1 [] r1 Stp.refl (by show RepWs _ _ _ _ [] []; unfold RepWs; rfl)
def fldAt (f : Str) : List Str → List W → Option W
  | g :: gs, w :: ws => if f = g then some w else fldAt f gs ws
  | _, _ => none
theorem fldAt_lookup {G : Gx} {H : Hp} {Y : Addr → Prop} {α : List Addr} {f : Str} : ∀ {fs : List Str} {ws : List W} {vs : List V} {w : W}, fldAt f fs ws = some w → RepWs G H Y α ws vs → ∃ v, (fs.zip vs).lookup f = some v ∧ RepW G H Y α w v
  | [], ws, vs, w, e, h => by cases e
  | g :: gs, [], vs, w, e, h => by cases e
  | g :: gs, x :: xs, vs, w, e, h => by
    unfold RepWs at h
    obtain ⟨v, r, rfl, h1, h2⟩ := h
    unfold fldAt at e
    rw [List.zip_cons_cons, List.lookup_cons]
    split at e
    · rename_i hf
      subst hf
      cases e
      exact ⟨v, by simp, h1⟩
    · rename_i hf
      obtain ⟨v', e1, h3⟩ := fldAt_lookup e h2
      refine ⟨v', ?_, h3⟩
      rw [show (f == g) = false from by simpa using hf]
      exact e1
def fdM (c fn : Str) (o : ME) : ME := fun τ S => (o τ S).bind fun w S1 => match w.inst S1 with
  | some (c', fs, ws) => if c' = c then (match fldAt fn fs ws with
    | some u => .ok u S1
    | none => .no) else .no
  | none => .no
theorem me_fld {c : Str} (ho : EE X Wx o mo) (cl : Cls X.K (ga X.K c)) (n : NoAttr X.K (ga X.K c) fn) (hb : attributeBase o fn X.env (eval o X.env) = eval o X.env := by rfl) : EE X Wx (.Attribute o fn pos) (fdM c fn mo) :=
  PE.imp (pe_fld ho hb) fun σ H Q h => by
    refine tM_then (R1 := rW X.gx) (k := fun w τ S1 => match w.inst S1 with
      | some (c', fs, ws) => if c' = c then (match fldAt fn fs ws with
        | some u => .ok u S1
        | none => .no) else .no
      | none => .no) h fun v H1 ⟨F, α, S, τ, b1, r, sl, q1, f⟩ => ?_
    dsimp only at f
    split at f
    · rename_i c' fs ws ei
      split at f
      · rename_i hc
        subst hc
        split at f
        · rename_i u eu
          obtain ⟨a, dx, vs, e1, h1, _, h2⟩ := W.inst_at r q1 ei
          obtain ⟨v', e2, h3⟩ := fldAt_lookup eu h2
          exact ⟨a, _, dx, _, v', e1, h1, cl, n, e2, f α H1 v' r Stp.refl h3⟩
        · exact f.elim
      · exact f.elim
    · exact f.elim
end
end Mi
set_option Elab.async false
set_option linter.all false
set_option maxRecDepth 100000
set_option maxHeartbeats 4000000
namespace Mi
open PySem PySem.Spec PyProof.Rows L2 He Wl
theorem thou {n : Nat} (h : n ≤ 1000000) : n ≤ sizeLine := Nat.le_trans h (by decide)
theorem thou' {n : Nat} (h : n < 1000000) : n < sizeLine := Nat.lt_of_lt_of_le h (by decide)
section
variable {X : Cx} {Wx : WX} {a b c e o : Expr} {es : List Expr} {pos apos p : Pos} {m mo : ME} {mr : MA} {us : List Nat}
def mkT (ws : List W) : W := match onlyD ws with
  | some ds => .d (.tup ds)
  | none => .tup ws
theorem mkT_rep {G : Gx} {H H' : Hp} {F : Addr → Prop} {α : List Addr} {S : Sto} {ws : List W} {vs : List V} {t : Addr} (r : Rel G F α S H) (sm : Same H H') (nt : H t = none) (ht : H' t = some (.tup vs)) (h : RepWs G H (XX F α S) α ws vs) : RepW G H' (XX F α S) α (mkT ws) (.ref t) := by
  have h' : RepWs G H' (XX F α S) α ws vs := h.stp (Stp.same sm)
  unfold mkT
  split
  · rename_i ds e
    rw [onlyD_eq e] at h'
    refine rw_d ?_
    unfold Rep
    exact ⟨t, vs, rfl, r.fresh nt, ht, d_reps h'⟩
  · unfold RepW
    exact ⟨t, vs, rfl, r.fresh nt, ht, h'⟩
def tpM (mr : MA) : ME := fun τ S => (mr τ S).bind fun ws S1 => if ws.length ≤ 1000000 then .ok (mkT ws) S1 else .no
theorem me_tup {x1} (h : EA X Wx es mr) : EE X Wx (.Tuple es x1 pos) (tpM mr) := PE.imp (pe_tup h) fun σ H Q h =>
  tM_then (R1 := rWs X.gx) (k := fun ws _ S1 => if ws.length ≤ 1000000 then .ok (mkT ws) S1 else .no) h fun vs H1 ⟨F, α, S, τ, ws, r, sl, q1, f⟩ => by
    dsimp only at f
    split at f
    · rename_i hl
      refine ⟨by rw [← q1.length]; exact thou hl, grow fun t H' sm nt ht => ?_⟩
      exact f α H' _ (r.same sm) (Stp.same sm) (mkT_rep r sm nt ht q1)
    · exact f.elim
def lsM (mr : MA) : ME := fun τ S => (mr τ S).bind fun ws S1 => match onlyD ws with
  | some ds => if ds.length ≤ 1000000 then .ok (.d (.lst ds)) S1 else .no
  | none => .no
theorem me_lst (h : EA X Wx es mr) : EE X Wx (.List es pos) (lsM mr) := PE.imp (pe_lst h) fun σ H Q h =>
  tM_then (R1 := rWs X.gx) (k := fun ws _ S1 => match onlyD ws with
    | some ds => if ds.length ≤ 1000000 then .ok (W.d (.lst ds)) S1 else .no
    | none => .no) h fun vs H1 ⟨F, α, S, τ, ws, r, sl, q1, f⟩ => by
    dsimp only at f
    split at f
    · rename_i ds ed
      rw [onlyD_eq ed] at q1
      split at f
      · rename_i hl
        refine ⟨by rw [← q1.length, List.length_map]; exact thou hl, grow fun t H' sm nt ht => ?_⟩
        refine f α H' _ (r.same sm) (Stp.same sm) (rw_d ?_)
        unfold Rep
        exact ⟨t, vs, rfl, r.fresh nt, ht, (d_reps q1).stay (Stp.same (α := α) (S := S) sm).stay⟩
      · exact f.elim
    · exact f.elim
def loM (mr : MA) : ME := fun τ S => (mr τ S).bind fun ws S1 => if ws.length ≤ 1000000 then .ok (.loc S1.length) (S1 ++ [.lst ws]) else .no
theorem own_stay {G : Gx} {F : Addr → Prop} {α : List Addr} {S : Sto} {H H' : Hp} {x : Addr} {o : O} (r : Rel G F α S H) (sm : Same H H') (nx : H x = none) : Stay (XX F α S) (XX F (α ++ [x]) (S ++ [o])) H H' := by
  refine ⟨fun a u e _ => sm a u e, fun a u e z => ?_⟩
  rcases z with z | ⟨i, v, e1, e2, e3⟩
  · exact .inl z
  · by_cases hi : i < α.length
    · rw [List.getElem?_append_left hi] at e1
      rw [List.getElem?_append_left (by have := r.len; omega)] at e2
      exact .inr ⟨i, v, e1, e2, e3⟩
    · rw [List.getElem?_append_right (by omega)] at e1
      have : a = x := by simpa using List.mem_of_getElem? e1
      subst this
      rw [nx] at e; cases e
theorem new_lst {G : Gx} {F : Addr → Prop} {α : List Addr} {S : Sto} {H H' : Hp} {x : Addr} {ws : List W} {vs : List V} (r : Rel G F α S H) (sm : Same H H') (nx : H x = none) (hx : H' x = some (.lst vs)) (h : RepWs G H (XX F α S) α ws vs) :
    Rel G F (α ++ [x]) (S ++ [.lst ws]) H' ∧ Stp α S H (α ++ [x]) (S ++ [.lst ws]) H' ∧ RepW G H' (XX F (α ++ [x]) (S ++ [.lst ws])) (α ++ [x]) (.loc S.length) (.ref x) := by
  obtain ⟨r2, s2⟩ := rel_snoc (o := .lst ws) r sm nx ⟨_, hx⟩ ⟨vs, hx, h.stay (own_stay r sm nx) ⟨[x], rfl⟩⟩
  exact ⟨r2, s2, by unfold RepW; exact ⟨x, by rw [← r.len]; simp, rfl⟩⟩
theorem me_lstO (h : EA X Wx es mr) : EE X Wx (.List es pos) (loM mr) := PE.imp (pe_lst h) fun σ H Q h =>
  tM_then (R1 := rWs X.gx) (k := fun ws _ S1 => if ws.length ≤ 1000000 then .ok (W.loc S1.length) (S1 ++ [.lst ws]) else .no) h fun vs H1 ⟨F, α, S, τ, ws, r, sl, q1, f⟩ => by
    dsimp only at f
    split at f
    · rename_i hl
      refine ⟨by rw [← q1.length]; exact thou hl, grow fun t H' sm nt ht => ?_⟩
      obtain ⟨r2, s2, h2⟩ := new_lst r sm nt ht q1
      exact f _ H' _ r2 s2 h2
    · exact f.elim
theorem yields_of {G : Gx} {F F' : Addr → Prop} {α0 : List Addr} {S0 : Sto} {H0 : Hp} {J : It} {n : Nat} {P : Hp → Prop} {Y : Nat → Hp → V → Hp → Prop} {ws : List W} (w : Walk J n P Y) (hn : ws.length = n) (hF : ∀ a, F' a → F a ∨ H0 a = none)
    (hP : ∀ H, (∀ a u, H0 a = some u → ¬ XX F α0 S0 a → H a = some u) → P H)
    (hY : ∀ i H x H' w, ws[i]? = some w → Y i H x H' → (∀ a u, H0 a = some u → ¬ XX F α0 S0 a → H a = some u) → Same H H' ∧ ∀ (X' : Addr → Prop) α, α0 <+: α → Stay (XX F α0 S0) X' H0 H → (∀ a, X' a → ∃ o, H a = some o) → RepW G H' X' α w x) : Yields G F' α0 S0 H0 J ws := by
  intro i α S H r s
  have kp : ∀ a u, H0 a = some u → ¬ XX F α0 S0 a → H a = some u := fun a u e n => s.keep a u e (fun z => (hF a z).elim (fun z => n (.inl z)) fun z => by rw [z] at e; cases e) fun z => n (.inr z)
  have st : Stay (XX F α0 S0) (XX F' α S) H0 H := ⟨kp, fun a u e z => by
    rcases z with z | z
    · rcases hF a z with z | z
      · exact .inl z
      · rw [z] at e; cases e
    · by_cases hf : F' a
      · rcases hF a hf with z | z
        · exact .inl z
        · rw [z] at e; cases e
      · exact .inr (s.less a u e hf z)⟩
  refine ⟨fun e => ?_, fun w' e => ?_⟩
  · rw [e, hn]; exact w.stops H (hP H kp)
  · have hi : i < n := by rw [← hn]; exact (List.getElem?_eq_some_iff.mp e).1
    refine ⟨w.goes i H hi (hP H kp), fun x H' y => ?_⟩
    obtain ⟨sm, k⟩ := hY i H x H' w' e (w.yields i H x H' hi (hP H kp) y) kp
    exact ⟨sm, k _ α s.pre st fun a z => r.xd z⟩
def seqW (S : Sto) : W → Option (List W × Sto)
  | .d (.lst xs) => some (xs.map .d, S)
  | .d (.tup xs) => some (xs.map .d, S)
  | .tup ws => some (ws, S)
  | .loc n => match S[n]? with
    | some (.lst ws) => (match onlyD ws with
      | some ds => some (ds.map .d, S.set n (.fz (.lst ds)))
      | none => some (ws, S.set n (.fzl ws)))
    | some (.fz (.lst xs)) => some (xs.map .d, S)
    | some (.fzl ws) => some (ws, S)
    | _ => none
  | _ => none
def itM (m : ME) : MA := fun τ S => (m τ S).bind fun w S1 => match seqW S1 w with
  | some (ws, S2) => .ok ws S2
  | none => .no
theorem RepWs.get {G : Gx} {H : Hp} {Y : Addr → Prop} {α : List Addr} : ∀ {ws : List W} {vs : List V} {i : Nat} {w : W}, RepWs G H Y α ws vs → ws[i]? = some w → ∃ v, vs[i]? = some v ∧ RepW G H Y α w v
  | [], vs, i, w, h, e => by simp at e
  | x :: xs, vs, i, w, h, e => by
    unfold RepWs at h
    obtain ⟨v, r, rfl, h1, h2⟩ := h
    cases i with
    | zero => simp at e; subst e; exact ⟨v, by simp, h1⟩
    | succ i => simpa using RepWs.get h2 (by simpa using e)
theorem freeze {G : Gx} {F : Addr → Prop} {α : List Addr} {S : Sto} {H : Hp} {n : Nat} {a : Addr} {o : O} {x : D} (r : Rel G F α S H) (ea : α[n]? = some a) (eo : S[n]? = some o) (hx : ∀ Y, (∀ b, Y b → XX F α S b) → ¬ Y a → Rep G H Y x (.ref a)) :
    Rel G F α (S.set n (.fz x)) H ∧ Stp α S H α (S.set n (.fz x)) H ∧ Rep G H (XX F α (S.set n (.fz x))) x (.ref a) := by
  have hn : n < S.length := (List.getElem?_eq_some_iff.mp eo).1
  have ow : ∀ b, own α (S.set n (.fz x)) b → own α S b := fun b ⟨i, u, h1, h2, h3⟩ => by
    by_cases hi : n = i
    · subst hi; rw [List.getElem?_set_self hn] at h2; cases h2; cases h3
    · rw [List.getElem?_set_ne hi] at h2; exact ⟨i, u, h1, h2, h3⟩
  have na : ¬ XX F α (S.set n (.fz x)) a := fun z => by
    rcases z with z | ⟨i, u, h1, h2, h3⟩
    · exact r.noF ea z
    · have hi := nodup_at r.nd ea h1
      subst hi
      rw [List.getElem?_set_self hn] at h2; cases h2; cases h3
  have l : ∀ b, XX F α (S.set n (.fz x)) b → XX F α S b := fun b z => z.elim .inl fun z => .inr (ow b z)
  have hr := hx _ l na
  have st : Stp α S H α (S.set n (.fz x)) H := ⟨⟨[], by simp⟩, fun _ _ e _ => e, fun b _ _ z => ow b z⟩
  refine ⟨⟨by rw [List.length_set]; exact r.len, r.nd, r.fr, r.fd, r.ad, fun i b u h1 h2 => ?_⟩, st, hr⟩
  by_cases hi : n = i
  · subst hi
    rw [ea] at h1; cases h1
    rw [List.getElem?_set_self hn] at h2; cases h2
    exact hr
  · rw [List.getElem?_set_ne hi] at h2
    exact (r.obj i b u h1 h2).stay st.stay ⟨[], by simp⟩ fun _ e _ => e
theorem freezeL {G : Gx} {F : Addr → Prop} {α : List Addr} {S : Sto} {H : Hp} {n : Nat} {a : Addr} {ws : List W} (r : Rel G F α S H) (ea : α[n]? = some a) (eo : S[n]? = some (.lst ws)) :
    Rel G F α (S.set n (.fzl ws)) H ∧ Stp α S H α (S.set n (.fzl ws)) H ∧ ∃ vs, ¬ XX F α (S.set n (.fzl ws)) a ∧ H a = some (.lst vs) ∧ RepWs G H (XX F α (S.set n (.fzl ws))) α ws vs := by
  have hn : n < S.length := (List.getElem?_eq_some_iff.mp eo).1
  have ow : ∀ b, own α (S.set n (.fzl ws)) b → own α S b := fun b ⟨i, u, h1, h2, h3⟩ => by
    by_cases hi : n = i
    · subst hi; rw [List.getElem?_set_self hn] at h2; cases h2; cases h3
    · rw [List.getElem?_set_ne hi] at h2; exact ⟨i, u, h1, h2, h3⟩
  have na : ¬ XX F α (S.set n (.fzl ws)) a := fun z => by
    rcases z with z | ⟨i, u, h1, h2, h3⟩
    · exact r.noF ea z
    · have hi := nodup_at r.nd ea h1
      subst hi
      rw [List.getElem?_set_self hn] at h2; cases h2; cases h3
  have st : Stp α S H α (S.set n (.fzl ws)) H := ⟨⟨[], by simp⟩, fun _ _ e _ => e, fun b _ _ z => ow b z⟩
  obtain ⟨vs, h1, h2⟩ := r.obj n a _ ea eo
  have hr : ∃ vs, ¬ XX F α (S.set n (.fzl ws)) a ∧ H a = some (.lst vs) ∧ RepWs G H (XX F α (S.set n (.fzl ws))) α ws vs := ⟨vs, na, h1, h2.stay st.stay ⟨[], by simp⟩⟩
  refine ⟨⟨by rw [List.length_set]; exact r.len, r.nd, r.fr, r.fd, r.ad, fun i b u h1 h2 => ?_⟩, st, hr⟩
  by_cases hi : n = i
  · subst hi
    rw [ea] at h1; cases h1
    rw [List.getElem?_set_self hn] at h2; cases h2
    exact hr
  · rw [List.getElem?_set_ne hi] at h2
    exact (r.obj i b u h1 h2).stay st.stay ⟨[], by simp⟩ fun _ e _ => e
theorem seqW_at {G : Gx} {F : Addr → Prop} {α : List Addr} {S S' : Sto} {H : Hp} {w : W} {v : V} {ws : List W} (r : Rel G F α S H) (h : RepW G H (XX F α S) α w v) (e : seqW S w = some (ws, S')) :
    Rel G F α S' H ∧ Stp α S H α S' H ∧ ∃ a vs, v = .ref a ∧ ¬ XX F α S' a ∧ (H a = some (.lst vs) ∨ H a = some (.tup vs)) ∧ RepWs G H (XX F α S') α ws vs := by
  unfold seqW at e
  split at e
  · cases e
    unfold RepW Rep at h
    obtain ⟨a, vs, e1, n, h1, h2⟩ := h
    exact ⟨r, Stp.refl, a, vs, e1, n, .inl h1, reps_d h2⟩
  · cases e
    unfold RepW Rep at h
    obtain ⟨a, vs, e1, n, h1, h2⟩ := h
    exact ⟨r, Stp.refl, a, vs, e1, n, .inr h1, reps_d h2⟩
  · cases e
    unfold RepW at h
    obtain ⟨a, vs, e1, n, h1, h2⟩ := h
    exact ⟨r, Stp.refl, a, vs, e1, n, .inr h1, h2⟩
  · rename_i n
    unfold RepW at h
    obtain ⟨a, ea, rfl⟩ := h
    split at e
    · rename_i us es
      split at e
      · rename_i ds ed
        cases e
        obtain ⟨vs, h1, h2⟩ := r.obj n a _ ea es
        rw [onlyD_eq ed] at h2
        have fz := freeze (x := .lst ds) r ea es (fun Y l ny => by unfold Rep; exact ⟨a, vs, rfl, ny, h1, (d_reps h2).less l⟩)
        obtain ⟨r2, s2, h3⟩ := fz
        unfold Rep at h3
        obtain ⟨a', vs', e', n', h4, h5⟩ := h3
        cases e'
        exact ⟨r2, s2, a, vs', rfl, n', .inl h4, reps_d h5⟩
      · cases e
        obtain ⟨r2, s2, vs', n', h4, h5⟩ := freezeL r ea es
        exact ⟨r2, s2, a, vs', rfl, n', .inl h4, h5⟩
    · rename_i xs es
      cases e
      have h := r.obj n a _ ea es
      unfold ObjAt Rep at h
      obtain ⟨a', vs', e', n', h4, h5⟩ := h
      cases e'
      exact ⟨r, Stp.refl, a, vs', rfl, n', .inl h4, reps_d h5⟩
    · rename_i xs es
      cases e
      obtain ⟨vs', n', h4, h5⟩ := r.obj n a _ ea es
      exact ⟨r, Stp.refl, a, vs', rfl, n', .inl h4, h5⟩
    · cases e
  · cases e
theorem yields_seq {G : Gx} {F : Addr → Prop} {α : List Addr} {S : Sto} {H : Hp} {a : Addr} {ws : List W} {vs : List V} {K : PySem.W.Frag} (n : ¬ XX F α S a) (h : RepWs G H (XX F α S) α ws vs) : (H a = some (.lst vs) → ∀ F', (∀ a, F' a → F a ∨ H a = none) → Yields G F' α S H (Itl K a) ws) ∧ (H a = some (.tup vs) → ∀ F', (∀ a, F' a → F a ∨ H a = none) → Yields G F' α S H (Itt K a) ws) := by
  have hY : ∀ i (H1 : Hp) x H' w, ws[i]? = some w → YAt vs i H1 x H' → (∀ a u, H a = some u → ¬ XX F α S a → H1 a = some u) → Same H1 H' ∧ ∀ (X' : Addr → Prop) β, α <+: β → Stay (XX F α S) X' H H1 → (∀ a, X' a → ∃ o, H1 a = some o) → RepW G H' X' β w x := by
    intro i H1 x H' w e y kp
    obtain ⟨rfl, ey⟩ := y
    obtain ⟨v, e2, rv⟩ := h.get e
    rw [ey] at e2; cases e2
    exact ⟨fun _ _ e => e, fun X' β p st _ => rv.stay st p⟩
  refine ⟨fun ha F' hF => ?_, fun ha F' hF => ?_⟩
  · refine yields_of (walk_list (K := K) (a := a) (xs := vs)) h.length hF (fun H1 kp => ?_) hY
    exact SqL.of (kp _ _ ha n)
  · exact yields_of (walk_tup (K := K) (a := a) (xs := vs)) h.length hF (fun H1 kp => SqT.of (kp _ _ ha n)) hY
theorem tIt_then {β γ : Type} {R : RR β γ} {m : Sl → Sto → Res β} {k : β → Sl → Sto → Res (List W)} {σ : L2.St} {H : Hp} {Rr : It → Hp → Prop} {P : γ → Hp → Prop} (h : tIt X Wx (fun τ S => (m τ S).bind fun b S1 => k b τ S1) σ H Rr)
    (q : ∀ c H1 F α S τ b, Rel X.gx F α S H1 → SlotsR X.gx H1 (XX F α S) α τ σ → R H1 (XX F α S) α b c → FinI X.gx F α S H1 Rr (fun c d H' => Wx c d σ H') (k b τ S) → P c H1) : tM R X.gx Wx m σ H P := by
  obtain ⟨F, α, S, τ, r, sl, f⟩ := h
  refine ⟨F, α, S, τ, r, sl, ?_⟩
  dsimp only at f
  cases em : m τ S with
  | no => rw [em] at f; exact f
  | ex c fs ws S' => rw [em] at f; exact f
  | ok b S' =>
    rw [em] at f
    intro α' H' v r' s' h'
    refine q v H' F α' S' τ b r' (sl.stp s') h' ?_
    cases ek : k b τ S' with
    | no => rw [Res.bind_ok, ek] at f; exact f
    | ex c fs ws S2 => rw [Res.bind_ok, ek] at f; exact fun α2 H2 d r2 s2 h2 => f α2 H2 d r2 (s'.trans s2) h2
    | ok ws S2 => rw [Res.bind_ok, ek] at f; exact fun α2 H2 J r2 s2 h2 => f α2 H2 J r2 (s'.trans s2) h2
theorem mi_seq {tg l : Expr} {ml : ME} (hl : EE X Wx l ml) : EI X Wx tg l (itM ml) := PI.imp (pi_seq hl) fun σ H R h => ⟨by
  refine tIt_then (R := rW X.gx) (k := fun w _ S1 => match seqW S1 w with
    | some (ws, S2) => .ok ws S2
    | none => .no) h fun v H1 F α S τ w r sl rw' f => ?_
  split at f
  · rename_i ws S2 e
    obtain ⟨r2, s2, a, vs, rfl, n, ha, hw⟩ := seqW_at r rw' e
    refine ⟨a, rfl, ?_⟩
    rcases ha with ha | ha
    · exact .inl ⟨vs, SqL.of ha, f α H1 _ r2 s2 fun F' hF => (yields_seq n hw).1 ha F' hF⟩
    · exact .inr ⟨vs, SqT.of ha, f α H1 _ r2 s2 fun F' hF => (yields_seq n hw).2 ha F' hF⟩
  · exact f.elim⟩
def rgL (lo : Int) (n : Nat) : List W := (List.range n).map fun (i : Nat) => .d (.int (lo + i))
def rg1 (mr : MA) : MA := fun τ S => (mr τ S).bind fun ws S1 => match ws with
  | [.d (.int j)] => if decide (j.natAbs < 2 ^ 62) = true then .ok (rgL 0 j.toNat) S1 else .no
  | _ => .no
theorem yields_rg {G : Gx} {F F' : Addr → Prop} {α : List Addr} {S : Sto} {H : Hp} (lo : Int) (n : Nat) (hF : ∀ a, F' a → F a ∨ H a = none) : Yields G F' α S H (Itr lo n) (rgL lo n) :=
  yields_of (F := F) walk_range (by simp [rgL]) hF (fun _ _ => trivial) fun i H1 x H' w e y kp => by
    obtain ⟨rfl, rfl⟩ := y
    refine ⟨fun _ _ e => e, fun X' β p st _ => ?_⟩
    unfold rgL at e
    rw [List.getElem?_map, Option.map_eq_some_iff] at e
    obtain ⟨j, e1, rfl⟩ := e
    have : j = i := by
      have h1 := (List.getElem?_eq_some_iff.mp e1).2
      simpa using h1.symm
    subst this
    exact rw_d (rep_int _)
theorem mi_range1 {tg : Expr} (hg : Gl X "range") (hm : X.mg "range" = none) (ha : EA X Wx [a] mr) (hs : starEach [a] X.env = [(false, eval a X.env)] := by rfl) : EI X Wx tg (.Call (.Name "range" p) [a] [] pos) (rg1 mr) := PI.imp (pi_range1 hg hm ha hs) fun σ H R h => by
  refine tIt_then (R := rWs X.gx) (k := fun ws _ S1 => match ws with
    | [.d (.int j)] => if decide (j.natAbs < 2 ^ 62) = true then .ok (rgL 0 j.toNat) S1 else .no
    | _ => .no) h fun vs H1 F α S τ w r sl rw' f => ?_
  split at f
  · rename_i j
    split at f
    · rename_i hj
      have hj := of_decide_eq_true hj
      obtain ⟨v, vr, rfl, h1, h2⟩ := (by unfold rWs RepWs at rw'; exact rw' : ∃ v r, vs = v :: r ∧ RepW X.gx H1 (XX F α S) α (.d (.int j)) v ∧ RepWs X.gx H1 (XX F α S) α [] r)
      unfold RepWs at h2
      unfold RepW Rep at h1
      subst h1 h2
      exact ⟨j, rfl, by omega, by omega, f α H1 _ r Stp.refl fun F' hF => yields_rg 0 j.toNat hF⟩
    · exact f.elim
  · exact f.elim
end
end Mi
set_option Elab.async false
set_option linter.all false
set_option maxRecDepth 100000
set_option maxHeartbeats 4000000
namespace Mi
open PySem PySem.Spec PyProof.Rows L2 He Wl
def wF : WX := fun _ _ _ _ => False
theorem takes_F {X : Cx} : Takes X wF := fun u s' ⟨_, _, _, _, _, _, _, _, _, _, _, _, _, _, _, _, z⟩ => z.elim
def wipeT (τ : Sl) : List Nat → Sl
  | [] => τ
  | v :: vs => (wipeT τ vs).set v none
theorem wipeT_slots {G : Gx} {H : Hp} {Y : Addr → Prop} {α : List Addr} {τ : Sl} {σ : L2.St} (h : SlotsR G H Y α τ σ) : ∀ vs : List Nat, SlotsR G H Y α (wipeT τ vs) (wipe σ vs)
  | [] => h
  | v :: vs => by unfold wipeT wipe; exact (wipeT_slots h vs).unset
def compL (g : MG) (t : MT) (e : ME) (τ : Sl) : List W → List D → Sto → Option (List D × Sto)
  | [], acc, S => some (acc, S)
  | w :: ws, acc, S => match g w τ S with
    | none => none
    | some (τ1, S1) => match t τ1 S1 with
      | .ok true S2 => (match e τ1 S2 with
        | .ok (.d x) S3 => compL g t e τ ws (acc ++ [x]) S3
        | _ => none)
      | .ok false S2 => compL g t e τ ws acc S2
      | _ => none
def compEnd (o : Bool) (ds : List D) (S : Sto) : Res W := if o = true then .ok (.loc S.length) (S ++ [.lst (ds.map .d)]) else .ok (.d (.lst ds)) S
def lcM (o : Bool) (vs : List Nat) (mi : MA) (g : MG) (t : MT) (e : ME) : ME := fun τ S => (mi τ S).bind fun ws S1 => if ws.length ≤ 1000000 then (match compL g t e (wipeT τ vs) ws [] S1 with
  | some (ds, S2) => compEnd o ds S2
  | none => .no) else .no
theorem Rel.lessF {G : Gx} {F F' : Addr → Prop} {α : List Addr} {S : Sto} {H : Hp} (r : Rel G F' α S H) (l : ∀ a, F a → F' a) : Rel G F α S H where
  len := r.len
  nd := r.nd
  fr := fun a z => r.fr a (l a z)
  fd := fun a z => r.fd a (l a z)
  ad := r.ad
  obj := fun n a o h1 h2 => (r.obj n a o h1 h2).stay ⟨fun _ _ e _ => e, fun a _ _ z => z.elim (fun z => .inl (l a z)) .inr⟩ ⟨[], by simp⟩ fun _ e _ => e
theorem Rel.out {G : Gx} {F : Addr → Prop} {α : List Addr} {S : Sto} {H : Hp} {d : Addr} {o : HO} (r : Rel G F α S H) (hd : F d) : Rel G F α S (upd H d o) ∧ Stay (XX F α S) (XX F α S) H (upd H d o) := by
  have st : Stay (XX F α S) (XX F α S) H (upd H d o) := ⟨fun a u e n => by rw [upd_ne (fun z => n (.inl (by rw [z]; exact hd)))]; exact e, fun _ _ _ z => z⟩
  have nd : ∀ {n : Nat} {a : Addr}, α[n]? = some a → a ≠ d := fun h z => r.noF h (by rw [z]; exact hd)
  refine ⟨⟨r.len, r.nd, r.fr, fun a z => ?_, fun n a h => ?_, fun n a u h1 h2 => ?_⟩, st⟩
  · by_cases e : a = d
    · exact ⟨o, by rw [e, upd_same]⟩
    · rw [upd_ne e]; exact r.fd a z
  · rw [upd_ne (nd h)]; exact r.ad n a h
  · exact (r.obj n a u h1 h2).stay st ⟨[], by simp⟩ fun v e _ => by rw [upd_ne (nd h1)]; exact e
structure LcAt (G : Gx) (F : Addr → Prop) (α1 : List Addr) (S1 : Sto) (H1 : Hp) (d : Addr) (α : List Addr) (S : Sto) (H : Hp) (ds : List D) : Prop where
  rel : Rel G (fun a => F a ∨ a = d) α S H
  stp : Stp α1 S1 H1 α S H
  acc : ∃ vs, H d = some (.lst vs) ∧ Reps G H (XX (fun a => F a ∨ a = d) α S) ds vs
section
variable {G : Gx} {F : Addr → Prop} {α1 α α' : List Addr} {S1 S S' : Sto} {H1 H H' : Hp} {d : Addr} {ds : List D}
theorem LcAt.first (r : Rel G F α1 S1 H1) (nd : H1 d = none) : LcAt G F α1 S1 H1 d α1 S1 (upd H1 d (.lst [])) [] := by
  have sm : Same H1 (upd H1 d (.lst [])) := same_new nd
  refine ⟨⟨r.len, r.nd, fun a z hz => ?_, fun a z => ?_, fun n a h => ?_, fun n a o h1 h2 => ?_⟩, Stp.same sm, [], upd_same, by unfold Reps; rfl⟩
  · rcases z with z | z
    · exact r.fr a z hz
    · subst z
      obtain ⟨n, h⟩ := List.getElem?_of_mem hz
      obtain ⟨o, e⟩ := r.ad n _ h
      rw [nd] at e; cases e
  · rcases z with z | z
    · obtain ⟨o, e⟩ := r.fd a z; exact ⟨o, sm _ _ e⟩
    · subst z; exact ⟨_, upd_same⟩
  · obtain ⟨o, e⟩ := r.ad n a h; exact ⟨o, sm _ _ e⟩
  · refine (r.obj n a o h1 h2).stay ⟨fun a u e _ => sm a u e, fun a u e z => ?_⟩ ⟨[], by simp⟩ fun u e _ => sm _ _ e
    rcases z with (z | z) | z
    · exact .inl z
    · subst z; rw [nd] at e; cases e
    · exact .inr z
theorem LcAt.on (c : LcAt G F α1 S1 H1 d α S H ds) (r : Rel G (fun a => F a ∨ a = d) α' S' H') (s : Stp α S H α' S' H') : LcAt G F α1 S1 H1 d α' S' H' ds := by
  obtain ⟨vs, h1, h2⟩ := c.acc
  have nd : ¬ own α S d := fun ⟨n, o, e, _⟩ => c.rel.fr d (.inr rfl) (List.mem_of_getElem? e)
  exact ⟨r, c.stp.trans s, vs, s.keep _ _ h1 nd, h2.stay s.stay⟩
theorem LcAt.push (c : LcAt G F α1 S1 H1 d α S H ds) (nd1 : H1 d = none) {x : D} {v : V} {vs : List V} (hd : H d = some (.lst vs)) (hx : Rep G H (XX (fun a => F a ∨ a = d) α S) x v) : LcAt G F α1 S1 H1 d α S (upd H d (.lst (vs ++ [v]))) (ds ++ [x]) := by
  obtain ⟨vs', h1, h2⟩ := c.acc
  rw [hd] at h1; cases h1
  obtain ⟨r2, st⟩ := Rel.out (o := .lst (vs ++ [v])) c.rel (.inr rfl)
  have app : ∀ {ds : List D} {vs : List V}, Reps G H (XX (fun a => F a ∨ a = d) α S) ds vs → Reps G H (XX (fun a => F a ∨ a = d) α S) (ds ++ [x]) (vs ++ [v]) := by
    intro ds
    induction ds with
    | nil => intro vs h; unfold Reps at h; subst h; show Reps _ _ _ [x] [v]; unfold Reps; exact ⟨v, [], rfl, hx, by unfold Reps; rfl⟩
    | cons y ys ih =>
      intro vs h
      unfold Reps at h
      obtain ⟨u, r, rfl, h1, h2⟩ := h
      show Reps _ _ _ (y :: (ys ++ [x])) (u :: (r ++ [v]))
      unfold Reps
      exact ⟨u, _, rfl, h1, ih h2⟩
  refine ⟨r2, ⟨c.stp.pre, fun a o e n => ?_, c.stp.less⟩, _, upd_same, (app h2).stay st⟩
  rw [upd_ne (ne_of_none e nd1)]
  exact c.stp.keep a o e n
end
theorem own_of_out {G : Gx} {F : Addr → Prop} {α : List Addr} {S : Sto} {H : Hp} {d : Addr} {ds : List D} {vs : List V} (r : Rel G (fun a => F a ∨ a = d) α S H) (nF : ¬ F d) (hd : H d = some (.lst vs)) (hr : Reps G H (XX (fun a => F a ∨ a = d) α S) ds vs) :
    Rel G F (α ++ [d]) (S ++ [.lst (ds.map .d)]) H := by
  have hlen : α.length = S.length := r.len
  have l : ∀ a, XX F (α ++ [d]) (S ++ [.lst (ds.map .d)]) a → XX (fun a => F a ∨ a = d) α S a := fun a z => by
    rcases z with z | ⟨i, v, e1, e2, e3⟩
    · exact .inl (.inl z)
    · by_cases hi : i < α.length
      · rw [List.getElem?_append_left hi] at e1
        rw [List.getElem?_append_left (by omega)] at e2
        exact .inr ⟨i, v, e1, e2, e3⟩
      · rw [List.getElem?_append_right (by omega)] at e1
        exact .inl (.inr (by simpa using List.mem_of_getElem? e1))
  have st : Stay (XX (fun a => F a ∨ a = d) α S) (XX F (α ++ [d]) (S ++ [.lst (ds.map .d)])) H H := ⟨fun _ _ e _ => e, fun a _ _ z => l a z⟩
  have last : ∀ {i : Nat} {a : Addr}, ¬ i < α.length → (α ++ [d])[i]? = some a → a = d := fun {i a} hi e => by
    rw [List.getElem?_append_right (by omega)] at e
    simpa using List.mem_of_getElem? e
  refine ⟨by simp [hlen], ?_, fun a z hz => ?_, fun a z => r.fd a (.inl z), fun i a e => ?_, fun i a u e1 e2 => ?_⟩
  · rw [List.nodup_append]
    refine ⟨r.nd, by simp, fun a ha b hb => ?_⟩
    have : b = d := by simpa using hb
    subst this
    rintro rfl
    exact r.fr _ (.inr rfl) ha
  · rcases List.mem_append.mp hz with hz | hz
    · exact r.fr a (.inl z) hz
    · have : a = d := by simpa using hz
      subst this
      exact nF z
  · by_cases hi : i < α.length
    · rw [List.getElem?_append_left hi] at e
      exact r.ad i a e
    · rw [last hi e]; exact ⟨_, hd⟩
  · by_cases hi : i < α.length
    · rw [List.getElem?_append_left hi] at e1
      rw [List.getElem?_append_left (by omega)] at e2
      exact (r.obj i a u e1 e2).stay st ⟨[d], rfl⟩ fun v e _ => e
    · have := last hi e1
      subst this
      rw [List.getElem?_append_right (by omega)] at e2
      have e2' : u = .lst (ds.map .d) := by simpa using List.mem_of_getElem? e2
      subst e2'
      exact ⟨vs, hd, reps_d (hr.less l)⟩
section
variable {X : Cx} {Wx : WX} {us : List Nat}
theorem tLc_of {o : Bool} {vs : List Nat} {mi : MA} {g : MG} {t : MT} {e : ME} {σ : L2.St} {H : Hp} {Q : VK} (hu : ∀ i ∈ us, i ∈ vs) (h : tE X Wx (lcM o vs mi g t e) σ H Q) : tLc (tIt X Wx mi) (tGo X.gx us g) (tM rB X.gx wF t) (tM (rW X.gx) X.gx wF e) vs σ H Q := by
  obtain ⟨F, α0, S0, τ, r, sl, f⟩ := h
  refine ⟨F, α0, S0, τ, r, sl, ?_⟩
  unfold lcM at f
  cases em : mi τ S0 with
  | no => rw [em] at f; exact f
  | ex c fs ws S' => rw [em] at f; exact f
  | ok ws S1 =>
    rw [em, Res.bind_ok] at f
    intro α1 H1 J r1 s1 hy D nD
    split at f
    · rename_i hlen
      split at f
      · rename_i ds S2 ec
        have nF : ¬ F D := fun z => by obtain ⟨o, e⟩ := r1.fd D z; rw [nD] at e; cases e
        have hy := hy (fun a => F a ∨ a = D) fun a z => z.elim .inl fun z => .inr (z ▸ nD)
        refine ⟨fun i m H => m = ws.length - i ∧ i ≤ ws.length ∧ ∃ α S acc, LcAt X.gx F α1 S1 H1 D α S H acc ∧ acc.length ≤ i ∧ compL g t e (wipeT τ vs) (ws.drop i) acc S = some (ds, S2), ⟨ws.length, by simp, Nat.zero_le _, α1, S1, [], LcAt.first r1 nD, Nat.le_refl _, by simpa using ec⟩, ?_⟩
        rintro i m H ⟨rfl, hle, α, S, acc, ca, hacc, ec⟩
        by_cases hlt : i < ws.length
        · have ei : ws[i]? = some ws[i] := by simp [hlt]
          rw [List.drop_eq_getElem_cons hlt] at ec
          obtain ⟨hgo, hyl⟩ := (hy i α S H ca.rel ca.stp.toF).2 _ ei
          refine .inr ⟨hgo, fun H' => i + 1 ≤ ws.length ∧ ∃ α S acc, LcAt X.gx F α1 S1 H1 D α S H' acc ∧ acc.length ≤ i + 1 ∧ compL g t e (wipeT τ vs) (ws.drop (i + 1)) acc S = some (ds, S2), fun H' q => ⟨_, by omega, rfl, q⟩, fun x H' y => ?_⟩
          obtain ⟨sm, rx⟩ := hyl x H' y
          have ca' := ca.on (ca.rel.same sm) (Stp.same sm)
          have sl' : SlotsR X.gx H' (XX (fun a => F a ∨ a = D) α S) α (wipeT τ vs) (wipe σ vs) := by
            have q := wipeT_slots sl vs
            refine ⟨q.len, fun j w e => ?_⟩
            obtain ⟨v, e1, rv⟩ := q.at_ j w e
            have so := (s1.trans ca'.stp)
            refine ⟨v, e1, rv.stay ⟨fun a u e n => so.keep a u e fun z => n (.inr z), fun a u e z => ?_⟩ so.pre⟩
            rcases z with (z | z) | z
            · exact .inl z
            · subst z
              by_cases ow : own α0 S0 a
              · exact .inr ow
              · have e' := s1.keep a u e ow
                rw [nD] at e'; cases e'
            · exact .inr (so.less a u e z)
          unfold compL at ec
          split at ec
          · cases ec
          · rename_i τ1 S3 eg
            refine ⟨_, α, S, wipeT τ vs, ws[i], τ1, S3, ca'.rel, sl', rx, eg, fun α4 H4 σ4 r4 s4 sl4 wp => ⟨?_, ?_⟩⟩
            · have h1 : wipe σ4 vs = wipe (wipe σ vs) vs := by
                apply List.ext_getElem?
                intro j
                have e1 := congrArg (fun l : L2.St => l[j]?) wp
                have hl : σ4.length = (wipe σ vs).length := by
                  have := congrArg List.length wp
                  rwa [wipe_length, wipe_length] at this
                rw [wipe_get, wipe_get] at e1
                rw [wipe_get, wipe_get, hl]
                by_cases hj : j ∈ vs
                · simp [hj]
                · have hj' : j ∉ us := fun z => hj (hu j z)
                  simp only [hj', if_false] at e1
                  simp only [hj, if_false]
                  exact e1
              rw [h1, wipe_wipe]
            · have ca4 := ca'.on r4 s4
              refine ⟨_, α4, S3, τ1, r4, sl4, ?_⟩
              cases et : t τ1 S3 with
              | no => rw [et] at ec; cases ec
              | ex c fs xs S' => rw [et] at ec; cases ec
              | ok b S5 =>
                rw [et] at ec
                intro α5 H5 b' r5 s5 eb
                have eb : b = b' := eb
                subst eb
                have ca5 := ca4.on r5 s5
                cases b with
                | false => exact ⟨hlt, α5, S5, acc, ca5, by omega, ec⟩
                | true =>
                  simp only [if_true]
                  refine ⟨_, α5, S5, τ1, r5, sl4.stp s5, ?_⟩
                  dsimp only at ec
                  split at ec
                  · rename_i x' S6 ee
                    rw [ee]
                    intro α6 H6 v r6 s6 rv
                    have ca6 := ca5.on r6 s6
                    obtain ⟨vs6, hd6, hr6⟩ := ca6.acc
                    refine ⟨vs6, hd6, ?_, hlt, α6, S6, acc ++ [x'], ca6.push nD hd6 (by unfold rW RepW at rv; exact rv), by simp; omega, ec⟩
                    rw [← hr6.length]
                    exact thou' (by omega)
                  · cases ec
        · have e : i = ws.length := by omega
          subst e
          refine .inl ⟨(hy _ α S H ca.rel ca.stp.toF).1 rfl, ?_⟩
          rw [List.drop_length] at ec
          unfold compL at ec
          cases ec
          obtain ⟨vs9, hd, hr⟩ := ca.acc
          have so := s1.trans ca.stp
          have nX : ¬ XX F α S2 D := fun z => z.elim nF fun ⟨n, o, e, _⟩ => ca.rel.fr D (.inr rfl) (List.mem_of_getElem? e)
          unfold compEnd at f
          cases o with
          | false => exact f α H _ (ca.rel.lessF fun _ => .inl) so (rw_d (by unfold Rep; exact ⟨D, vs9, rfl, nX, hd, hr.less fun a z => z.elim (fun z => .inl (.inl z)) .inr⟩))
          | true =>
            simp only [if_true] at f
            have ra := own_of_out ca.rel nF hd hr
            have hl := ca.rel.len
            refine f _ H _ ra ⟨so.pre.trans ⟨[D], rfl⟩, fun a u e n => so.keep a u e n, fun a u e z => ?_⟩ (by unfold rW RepW; exact ⟨D, by rw [← hl]; simp, rfl⟩)
            obtain ⟨i, v, e1, e2, e3⟩ := z
            by_cases hi : i < α.length
            · rw [List.getElem?_append_left hi] at e1
              rw [List.getElem?_append_left (by omega)] at e2
              exact so.less a u e ⟨i, v, e1, e2, e3⟩
            · rw [List.getElem?_append_right (by omega)] at e1
              have : a = D := by simpa using List.mem_of_getElem? e1
              subst this
              exact Classical.byContradiction fun q => by
                have := s1.keep a u e q
                rw [nD] at this; cases this
      · exact f.elim
    · exact f.elim

variable {elt tg iter : Expr} {pos : Pos} {mi : MA} {g : MG} {t : MT} {e : ME}
theorem mts_nil : PTs X [] (tM rB X.gx wF (fun _ S => .ok true S)) := ⟨fun pins s σ H Q I ⟨F, α, S, τ, r, sl, f⟩ => pts_nil.run pins s σ H Q I (f α H true r Stp.refl rfl)⟩
theorem mts_one {c : Expr} (h : ET X wF c t) : PTs X [c] (tM rB X.gx wF t) := pts_one h
theorem me_lc {ifs : List Expr} {scope : Scope} {own : List (Str × Nat)} (o : Bool) (hc : X.calm = true) (hN : X.N.Nodup) (hi : EI X Wx tg iter mi) (ok : BlkOk X.N X.env.scope scope own)
    (hg : ∀ (s : Shared) (H : Hp) (C : Addr) (cl : List (Str × Addr)) (fp : List Addr), EG (X.blk s H scope (compEnvC scope cl C X.env) fp) (own.map (·.2)) tg g)
    (ht : ∀ (s : Shared) (H : Hp) (C : Addr) (cl : List (Str × Addr)) (fp : List Addr), PTs (X.blk s H scope (compEnvC scope cl C X.env) fp) ifs (tM rB X.gx wF t))
    (he : ∀ (s : Shared) (H : Hp) (C : Addr) (cl : List (Str × Addr)) (fp : List Addr), EE (X.blk s H scope (compEnvC scope cl C X.env) fp) wF elt e) (hs : ∀ x, foldedSetIterable iter X.env x = pure x := by intro _; rfl) :
    EE X Wx (.ListComp elt [⟨tg, iter, ifs, 0⟩] scope pos) (lcM o (own.map (·.2)) mi g t e) :=
  PE.imp (pe_lc (te := tM (rW X.gx) X.gx wF e) (g := tGo X.gx (own.map fun q : Str × Nat => q.2) g) hc hN hi ok hg ht he hs) fun σ H Q h => tLc_of (fun _ z => z) h
theorem ms_setLc {i : Nat} {y : Str} {py spos : Pos} {ifs : List Expr} {scope : Scope} {own : List (Str × Nat)} (o : Bool) (hc : X.calm = true) (hN : X.N.Nodup) (hy : X.N[i]? = some y) (hyl : X.env.scope.names.lookup y = some .local)
    (hsw : swapsWith (.ListComp elt [⟨tg, iter, ifs, 0⟩] scope pos) (some (.Name y py)) spos.line X.env = pure true) (hi : EI X Wx tg iter mi) (ok : BlkOk X.N X.env.scope scope own)
    (hg : ∀ (s : Shared) (H : Hp) (C : Addr) (cl : List (Str × Addr)) (fp : List Addr), EG (X.blk s H scope (compEnvC scope cl C X.env) fp) (own.map (·.2)) tg g)
    (ht : ∀ (s : Shared) (H : Hp) (C : Addr) (cl : List (Str × Addr)) (fp : List Addr), PTs (X.blk s H scope (compEnvC scope cl C X.env) fp) ifs (tM rB X.gx wF t))
    (he : ∀ (s : Shared) (H : Hp) (C : Addr) (cl : List (Str × Addr)) (fp : List Addr), EE (X.blk s H scope (compEnvC scope cl C X.env) fp) wF elt e) (hs : ∀ x, foldedSetIterable iter X.env x = pure x := by intro _; rfl) :
    ES X Wx (.Assign [.Name y py] (.ListComp elt [⟨tg, iter, ifs, 0⟩] scope pos) spos) (asS (lcM o (own.map (·.2)) mi g t e) (gN i)) :=
  PS.imp (ps_setLc (te := tM (rW X.gx) X.gx wF e) (g := tGo X.gx (own.map fun q : Str × Nat => q.2) g) hc hN hy hyl hsw hi ok hg ht he hs) fun D σ H h =>
    tLc_of (fun _ z => z) (tS_then (R := rW X.gx) (k := fun w τ S1 => match gN i w τ S1 with
      | some (τ', S2) => .nx τ' S2
      | none => .no) h fun v H1 F α S τ w r sl rw' f => f α H1 _ r Stp.refl (sl.set rw'))
end
end Mi
set_option Elab.async false
set_option linter.all false
set_option maxRecDepth 100000
set_option maxHeartbeats 4000000
namespace Mi
open PySem PySem.Spec PyProof.Rows L2 He Wl
section
variable {X : Cx}
def int2 (g : Int → Int → Option D) : Sto → W → W → Option W := fun _ x y => match x, y with
  | .d (.int i), .d (.int j) => (g i j).map .d
  | _, _ => none
theorem ops_int {f : Value → Value → Sem Value} {C : Int → Int → Prop} {v : Int → Int → V} {g : Int → Int → Option D} (h : OpR X f (rI C v)) (hg : ∀ i j x, g i j = some x → C i j ∧ ∀ (G : Gx) H Y, Rep G H Y x (v i j)) : OpS X f (pure2 (int2 g)) :=
  OpR.imp h fun x y H Q q => by
    obtain ⟨F, α, S, wx, wy, w, r, hx, hy, e, k⟩ := rQ_two q
    unfold int2 at e
    split at e
    · rename_i i j
      rw [Option.map_eq_some_iff] at e
      obtain ⟨d, e, rfl⟩ := e
      obtain ⟨hc, hd⟩ := hg i j d e
      unfold RepW Rep at hx hy
      subst hx hy
      exact ⟨i, j, rfl, rfl, hc, k H _ (fun _ _ e => e) (rw_d (hd _ _ _))⟩
    · cases e
theorem rI0_rI {f : Value → Value → Sem Value} {v : Int → Int → V} (h : OpR X f (rI0 v)) : OpR X f (rI (fun _ _ => True) v) := OpR.imp h fun x y H Q ⟨i, j, e1, e2, _, q⟩ => ⟨i, j, e1, e2, q⟩
def qAddI : Pr := pure2 (int2 fun i j => some (.int (i + j)))
def qSubI : Pr := pure2 (int2 fun i j => some (.int (i - j)))
def qMulI : Pr := pure2 (int2 fun i j => if i.natAbs.log2 + j.natAbs.log2 < 1000000 then some (.int (i * j)) else none)
def qDivI : Pr := pure2 (int2 fun i j => if j ≠ 0 ∧ j.natAbs.log2 < 9000 then some (.int (i.fdiv j)) else none)
def qModI : Pr := pure2 (int2 fun i j => if j ≠ 0 then some (.int (i.fmod j)) else none)
def qPowI : Pr := pure2 (int2 fun i j => if 0 ≤ j ∧ Builtin.Int.intBits i * j.toNat ≤ 2 ^ 27 then some (.int (i ^ j.toNat)) else none)
theorem os_addI : OpS X (binaryOp .Add) qAddI := ops_int (rI0_rI op_add) fun i j x e => by cases e; exact ⟨trivial, fun _ _ _ => rep_int _⟩
theorem os_subI : OpS X (binaryOp .Sub) qSubI := ops_int (rI0_rI op_sub) fun i j x e => by cases e; exact ⟨trivial, fun _ _ _ => rep_int _⟩
theorem os_mulI : OpS X (binaryOp .Mult) qMulI := ops_int op_mulW fun i j x e => by
  split at e
  · rename_i h; cases e; exact ⟨h, fun _ _ _ => rep_int _⟩
  · cases e
theorem os_divI : OpS X (binaryOp .FloorDiv) qDivI := ops_int op_fdivNW fun i j x e => by
  split at e
  · rename_i h; cases e; exact ⟨h, fun _ _ _ => rep_int _⟩
  · cases e
theorem os_modI : OpS X (binaryOp .Mod) qModI := ops_int op_modN fun i j x e => by
  split at e
  · rename_i h; cases e; exact ⟨h, fun _ _ _ => rep_int _⟩
  · cases e
theorem os_powI : OpS X (binaryOp .Pow) qPowI := ops_int op_powW fun i j x e => by
  split at e
  · rename_i h
    cases e
    refine ⟨⟨h.1, ?_⟩, fun _ _ _ => rep_int _⟩
    have h2 : ((Builtin.Int.intBits i * j.toNat : Nat) : Int) ≤ ((2 ^ 27 : Nat) : Int) := Int.ofNat_le.mpr h.2
    rw [Int.natCast_mul, Int.toNat_of_nonneg h.1] at h2
    exact h2
  · cases e
def qLtI : Pr := pure2 (int2 fun i j => some (.bl (decide (i < j))))
def qLeI : Pr := pure2 (int2 fun i j => some (.bl (decide (i ≤ j))))
def qGtI : Pr := pure2 (int2 fun i j => some (.bl (decide (j < i))))
def qGeI : Pr := pure2 (int2 fun i j => some (.bl (decide (j ≤ i))))
theorem os_ltI : OpS X (compareOp .Lt) qLtI := ops_int (rI0_rI op_lt) fun i j x e => by cases e; exact ⟨trivial, fun _ _ _ => rep_bl _⟩
theorem os_leI : OpS X (compareOp .LtE) qLeI := ops_int (rI0_rI op_le) fun i j x e => by cases e; exact ⟨trivial, fun _ _ _ => rep_bl _⟩
theorem os_gtI : OpS X (compareOp .Gt) qGtI := ops_int (rI0_rI op_gt) fun i j x e => by cases e; exact ⟨trivial, fun _ _ _ => rep_bl _⟩
theorem os_geI : OpS X (compareOp .GtE) qGeI := ops_int (rI0_rI op_ge) fun i j x e => by cases e; exact ⟨trivial, fun _ _ _ => rep_bl _⟩
def qNegI : Pr := pure1 fun _ x => match x with
  | .d (.int i) => some (.d (.int (-i)))
  | _ => none
theorem us_negI : UnS X (unaryOp .USub) qNegI := fun pins s σ H x v Q I rx q => by
  obtain ⟨F, α, S, wx, w, r, hx, e, k⟩ := rQ_one q
  split at e
  · rename_i i
    cases e
    unfold RepW Rep at hx
    subst hx
    exact un_neg pins s σ H _ v Q I rx ⟨i, rfl, k H _ (fun _ _ e => e) (rw_d (rep_int _))⟩
  · cases e
def str2 (g : Str → Str → Option D) : Sto → W → W → Option W := fun _ x y => match x, y with
  | .d (.str i), .d (.str j) => (g i j).map .d
  | _, _ => none
theorem ops_str {f : Value → Value → Sem Value} {C : Str → Str → Prop} {v : Str → Str → V} {g : Str → Str → Option D} (h : OpR X f (fun x y H Q => ∃ i j, x = .str i ∧ y = .str j ∧ C i j ∧ Q (v i j) H)) (hg : ∀ i j x, g i j = some x → C i j ∧ ∀ (G : Gx) H Y, Rep G H Y x (v i j)) : OpS X f (pure2 (str2 g)) :=
  OpR.imp h fun x y H Q q => by
    obtain ⟨F, α, S, wx, wy, w, r, hx, hy, e, k⟩ := rQ_two q
    unfold str2 at e
    split at e
    · rename_i i j
      rw [Option.map_eq_some_iff] at e
      obtain ⟨d, e, rfl⟩ := e
      obtain ⟨hc, hd⟩ := hg i j d e
      unfold RepW Rep at hx hy
      subst hx hy
      exact ⟨i, j, rfl, rfl, hc, k H _ (fun _ _ e => e) (rw_d (hd _ _ _))⟩
    · cases e
def qAddS : Pr := pure2 (str2 fun i j => if i.length + j.length ≤ 1000000 then some (.str (i ++ j)) else none)
theorem os_addS : OpS X (binaryOp .Add) qAddS := ops_str op_add_str fun i j x e => by
  split at e
  · rename_i h; cases e; exact ⟨thou h, fun _ _ _ => rep_str _⟩
  · cases e
def qLtS : Pr := pure2 (str2 fun i j => some (.bl (decide (i.cps.toList < j.cps.toList))))
def qLeS : Pr := pure2 (str2 fun i j => some (.bl (!decide (j.cps.toList < i.cps.toList))))
theorem os_ltS : OpS X (compareOp .Lt) qLtS := ops_str (C := fun _ _ => True) (OpR.imp op_lt_str fun x y H Q ⟨i, j, a, b, _, q⟩ => ⟨i, j, a, b, q⟩) fun i j x e => by cases e; exact ⟨trivial, fun _ _ _ => rep_bl _⟩
theorem os_leS : OpS X (compareOp .LtE) qLeS := ops_str (C := fun _ _ => True) (OpR.imp op_le_str fun x y H Q ⟨i, j, a, b, _, q⟩ => ⟨i, j, a, b, q⟩) fun i j x e => by cases e; exact ⟨trivial, fun _ _ _ => rep_bl _⟩
def qInSg : Pr := pure2 fun _ x y => match x, y with
  | .d (.str ⟨⟨[c]⟩⟩), .d (.str z) => some (.d (.bl (decide (c ∈ z.cps.toList))))
  | _, _ => none
def qNiSg : Pr := pure2 fun _ x y => match x, y with
  | .d (.str ⟨⟨[c]⟩⟩), .d (.str z) => some (.d (.bl (!decide (c ∈ z.cps.toList))))
  | _, _ => none
theorem os_inSg : OpS X (compareOp .In) qInSg := OpR.imp op_in_sign fun x y H Q q => by
  obtain ⟨F, α, S, wx, wy, w, r, hx, hy, e, k⟩ := rQ_two q
  split at e
  · rename_i c z
    cases e
    unfold RepW Rep at hx hy
    subst hx hy
    exact ⟨c, z, rfl, rfl, k H _ (fun _ _ e => e) (rw_d (rep_bl _))⟩
  · cases e
theorem os_niSg : OpS X (compareOp .NotIn) qNiSg := OpR.imp op_notIn_sign fun x y H Q q => by
  obtain ⟨F, α, S, wx, wy, w, r, hx, hy, e, k⟩ := rQ_two q
  split at e
  · rename_i c z
    cases e
    unfold RepW Rep at hx hy
    subst hx hy
    exact ⟨c, z, rfl, rfl, k H _ (fun _ _ e => e) (rw_d (rep_bl _))⟩
  · cases e
def W.isNone : W → Bool
  | .d .non => true
  | _ => false
theorem isNone_rep {G : Gx} {H : Hp} {Y : Addr → Prop} {α : List Addr} {w : W} {v : V} (h : RepW G H Y α w v) : decide (v = .non) = w.isNone := by
  cases w with
  | d x =>
    unfold RepW at h
    cases x <;> (unfold Rep at h; first | (subst h; rfl) | (obtain ⟨a, h⟩ := h; first | (obtain ⟨rfl, _⟩ := h; rfl) | (obtain ⟨vs, rfl, _⟩ := h; rfl) | (obtain ⟨dx, rfl, _⟩ := h; rfl) | (obtain ⟨dx, vs, rfl, _⟩ := h; rfl)))
  | loc n => unfold RepW at h; obtain ⟨a, _, rfl⟩ := h; rfl
  | tup ws => unfold RepW at h; obtain ⟨a, vs, rfl, _⟩ := h; rfl
def qIsN : Pr := pure2 fun _ x y => match y with
  | .d .non => some (.d (.bl x.isNone))
  | _ => none
def qNotN : Pr := pure2 fun _ x y => match y with
  | .d .non => some (.d (.bl (!x.isNone)))
  | _ => none
theorem os_isN : OpS X (compareOp .Is) qIsN := OpR.imp op_isN fun x y H Q q => by
  obtain ⟨F, α, S, wx, wy, w, r, hx, hy, e, k⟩ := rQ_two q
  split at e
  · cases e
    unfold RepW Rep at hy
    rw [isNone_rep hx]
    exact ⟨hy, k H _ (fun _ _ e => e) (rw_d (rep_bl _))⟩
  · cases e
theorem os_notN : OpS X (compareOp .IsNot) qNotN := OpR.imp op_notN fun x y H Q q => by
  obtain ⟨F, α, S, wx, wy, w, r, hx, hy, e, k⟩ := rQ_two q
  split at e
  · cases e
    unfold RepW Rep at hy
    rw [isNone_rep hx]
    exact ⟨hy, k H _ (fun _ _ e => e) (rw_d (rep_bl _))⟩
  · cases e
end
def lstOf (S : Sto) : W → Option (List W)
  | .d (.lst xs) => some (xs.map .d)
  | .loc n => match S[n]? with
    | some (.lst ws) => some ws
    | some (.fz (.lst xs)) => some (xs.map .d)
    | some (.fzl ws) => some ws
    | _ => none
  | _ => none
def seqOf (S : Sto) (w : W) : Option (List W) := match w with
  | .d (.scr ns) => some (ns.map fun i => .d (.int i))
  | _ => match lstOf S w with
    | some ws => some ws
    | none => w.items
theorem lstOf_at {G : Gx} {F : Addr → Prop} {α : List Addr} {S : Sto} {H : Hp} {w : W} {v : V} {ws : List W} (r : Rel G F α S H) (h : RepW G H (XX F α S) α w v) (e : lstOf S w = some ws) : ∃ a vs, v = .ref a ∧ H a = some (.lst vs) ∧ RepWs G H (XX F α S) α ws vs := by
  unfold lstOf at e
  split at e
  · cases e
    unfold RepW Rep at h
    obtain ⟨a, vs, e1, n, h1, h2⟩ := h
    exact ⟨a, vs, e1, h1, reps_d h2⟩
  · rename_i n
    unfold RepW at h
    obtain ⟨a, ea, rfl⟩ := h
    split at e
    · rename_i us es
      cases e
      obtain ⟨vs, h1, h2⟩ := r.obj n a _ ea es
      exact ⟨a, vs, rfl, h1, h2⟩
    · rename_i xs es
      cases e
      have h := r.obj n a _ ea es
      unfold ObjAt Rep at h
      obtain ⟨a', vs', e', n', h4, h5⟩ := h
      cases e'
      exact ⟨a, vs', rfl, h4, reps_d h5⟩
    · rename_i us es
      cases e
      obtain ⟨vs, _, h1, h2⟩ := r.obj n a _ ea es
      exact ⟨a, vs, rfl, h1, h2⟩
    · cases e
  · cases e
theorem seqOf_at {G : Gx} {F : Addr → Prop} {α : List Addr} {S : Sto} {H : Hp} {w : W} {v : V} {ws : List W} (K : PySem.W.Frag) (r : Rel G F α S H) (h : RepW G H (XX F α S) α w v) (e : seqOf S w = some ws) (eK : G.K = K := by rfl) : ∃ a vs, v = .ref a ∧ (SqL K H a vs ∨ SqT K H a vs) ∧ RepWs G H (XX F α S) α ws vs := by
  unfold seqOf at e
  split at e
  · rename_i ns
    cases e
    unfold RepW Rep at h
    obtain ⟨a, e1, h1⟩ := h
    refine ⟨a, _, e1, .inl (h1.elim (fun ⟨_, o, h1⟩ => .inl (.inr ⟨o, h1⟩)) fun z => .inr (by rw [← eK]; exact z)), ?_⟩
    clear h1 e1
    induction ns with
    | nil => show RepWs _ _ _ _ [] []; unfold RepWs; rfl
    | cons i ns ih => exact RepWs.mkC (rw_d (rep_int i)) ih
  · split at e
    · rename_i us eu
      cases e
      obtain ⟨a, vs, e1, h1, h2⟩ := lstOf_at r h eu
      exact ⟨a, vs, e1, .inl (SqL.of h1), h2⟩
    · obtain ⟨a, vs, e1, _, h1, h2⟩ := W.items_at h e
      exact ⟨a, vs, e1, .inr (SqT.of h1), h2⟩
theorem atI_rep {G : Gx} {H : Hp} {Y : Addr → Prop} {α : List Addr} {ws : List W} {vs : List V} {i : Int} {w : W} (h : RepWs G H Y α ws vs) (e : atI ws i = some w) : ∃ v, atI vs i = some v ∧ RepW G H Y α w v := by
  unfold atI at e ⊢
  rw [← h.length]
  rw [Option.bind_eq_some_iff] at e
  obtain ⟨j, e1, e2⟩ := e
  obtain ⟨v, e3, r⟩ := h.get e2
  exact ⟨v, by rw [e1]; exact e3, r⟩
section
variable {X : Cx}
def qIx : Pr := pure2 fun S x y => match y with
  | .d (.int i) => (match seqOf S x with
    | some ws => atI ws i
    | none => none)
  | _ => none
theorem is_ix : IxS X qIx := fun va sl pins s σ H x y v u Q I rx ry q hs => by
  obtain ⟨F, α, S, wx, wy, w, r, hx, hy, e, k⟩ := rQ_two q
  split at e
  · rename_i i
    split at e
    · rename_i ws es
      unfold RepW Rep at hy
      subst hy
      obtain ⟨a, vs, rfl, hsq, hw⟩ := seqOf_at X.K r hx es
      obtain ⟨z, ez, hz⟩ := atI_rep hw e
      refine ix_seq va sl pins s σ H _ _ v u Q I rx ry ?_ hs
      rcases hsq with hsq | hsq
      · exact .inl ⟨a, vs, i, z, rfl, rfl, hsq, ez, k H z (fun _ _ e => e) hz⟩
      · exact .inr (.inl ⟨a, vs, i, z, rfl, rfl, hsq, ez, k H z (fun _ _ e => e) hz⟩)
    · cases e
  · cases e
def qLen : Pr := pure1 fun S x => match x with
  | .d (.str z) => if z.length ≤ 1000000 then some (.d (.int z.length)) else none
  | _ => (seqOf S x).map fun ws => .d (.int ws.length)
theorem cs_len : CallS X (.builtin "len") qLen := fun pins s σ H vs us Q I rv q => by
  obtain ⟨F, α, S, ws, w, S', r, hw, e, k⟩ := id q
  obtain ⟨v, rfl⟩ : ∃ v, vs = [v] := by
    unfold qLen pure1 at e
    split at e
    · rename_i x
      have := hw.length
      match vs, this with
      | [v], _ => exact ⟨v, rfl⟩
    · cases e
  obtain ⟨F, α, S, wx, w, r, hx, e, k⟩ := rQ_one q
  split at e
  · rename_i z
    split at e
    · rename_i hz
      cases e
      unfold RepW Rep at hx
      subst hx
      exact call_len_str pins s σ H _ us Q I rv ⟨z, rfl, thou hz, k H _ (fun _ _ e => e) (rw_d (rep_int _))⟩
    · cases e
  · rw [Option.map_eq_some_iff] at e
    obtain ⟨ws, es, rfl⟩ := e
    obtain ⟨a, vs, rfl, hsq, hw⟩ := seqOf_at X.K r hx es
    refine call_len_seq pins s σ H _ us Q I rv ⟨a, vs, rfl, hsq, ?_⟩
    have := k H (.int vs.length) (fun _ _ e => e) (rw_d (by rw [hw.length]; exact rep_int _))
    exact this
def qCat : Pr := pure2 fun S x y => match lstOf S x, lstOf S y with
  | some xs, some ys => (match onlyD (xs ++ ys) with
    | some ds => if ds.length ≤ 1000000 then some (.d (.lst ds)) else none
    | none => none)
  | _, _ => none
theorem RepWs.append {G : Gx} {H : Hp} {Y : Addr → Prop} {α : List Addr} {ys : List W} {us : List V} (h' : RepWs G H Y α ys us) : ∀ {xs : List W} {vs : List V}, RepWs G H Y α xs vs → RepWs G H Y α (xs ++ ys) (vs ++ us)
  | [], vs, h => by unfold RepWs at h; subst h; exact h'
  | x :: xs, vs, h => by
    unfold RepWs at h
    obtain ⟨v, r, rfl, h1, h2⟩ := h
    exact RepWs.mkC h1 (RepWs.append h' h2)
theorem os_cat : OpS X (binaryOp .Add) qCat := OpR.imp op_cat fun x y H Q q => by
  obtain ⟨F, α, S, wx, wy, w, r, hx, hy, e, k⟩ := rQ_two q
  split at e
  · rename_i xs ys e1 e2
    split at e
    · rename_i ds ed
      split at e
      · rename_i hl
        cases e
        obtain ⟨a, vs, rfl, h1, hw⟩ := lstOf_at r hx e1
        obtain ⟨b, us, rfl, h2, hu⟩ := lstOf_at r hy e2
        have ha := RepWs.append hu hw
        rw [onlyD_eq ed] at ha
        have hlen : vs.length + us.length = ds.length := by
          have := ha.length
          simpa using this.symm
        refine ⟨a, b, vs, us, rfl, rfl, h1, h2, by rw [hlen]; exact thou hl, grow fun p H' sm np hp => ?_⟩
        refine k H' _ sm (rw_d ?_)
        unfold Rep
        exact ⟨p, _, rfl, r.fresh np, hp, (d_reps ha).stay (Stp.same (α := α) (S := S) sm).stay⟩
      · cases e
    · cases e
  · cases e
def qCatT : Pr := pure2 fun S x y => match x.items, y.items with
  | some xs, some ys => (match onlyD (xs ++ ys) with
    | some ds => if ds.length ≤ 1000000 then some (.d (.tup ds)) else none
    | none => none)
  | _, _ => none
theorem os_catT : OpS X (binaryOp .Add) qCatT := OpR.imp op_catA fun x y H Q q => by
  obtain ⟨F, α, S, wx, wy, w, r, hx, hy, e, k⟩ := rQ_two q
  split at e
  · rename_i xs ys e1 e2
    split at e
    · rename_i ds ed
      split at e
      · rename_i hl
        cases e
        obtain ⟨a, vs, rfl, na, h1, hw⟩ := W.items_at hx e1
        obtain ⟨b, us, rfl, nb, h2, hu⟩ := W.items_at hy e2
        have ha := RepWs.append hu hw
        rw [onlyD_eq ed] at ha
        have hlen : vs.length + us.length = ds.length := by
          have := ha.length
          simpa using this.symm
        refine ⟨a, b, vs, us, rfl, rfl, SqT.of h1, SqT.of h2, by rw [hlen]; exact thou hl, fun z => ?_, fun _ z => ?_, fun _ _ => grow fun p H' sm np hp => ?_⟩
        · subst z
          refine k H _ (fun _ _ e => e) (rw_d ?_)
          unfold Rep
          exact ⟨b, us, rfl, nb, h2, d_reps ha⟩
        · subst z
          rw [List.append_nil] at ha
          refine k H _ (fun _ _ e => e) (rw_d ?_)
          unfold Rep
          exact ⟨a, vs, rfl, na, h1, d_reps ha⟩
        · refine k H' _ sm (rw_d ?_)
          unfold Rep
          exact ⟨p, _, rfl, r.fresh np, hp, (d_reps ha).stay (Stp.same (α := α) (S := S) sm).stay⟩
      · cases e
    · cases e
  · cases e
end
end Mi
set_option Elab.async false
set_option linter.all false
set_option maxRecDepth 100000
set_option maxHeartbeats 4000000
namespace Mi
open PySem PySem.Spec PyProof.Rows L2 He Wl
inductive Tg where
  | b (n : String) | c (x : Str)
def Tg.v (K : PySem.W.Frag) : Tg → Value
  | .b n => .type n
  | .c x => .ref (ga K x)
abbrev ratS : Str := "Ratio"
def ordT : List String := ["NoneType", "bool", "int", "str", "list", "tuple", "dict"]
def tgD : D → Option Tg
  | .non => some (.b "NoneType")
  | .bl _ => some (.b "bool")
  | .int _ => some (.b "int")
  | .str _ => some (.b "str")
  | .tup _ => some (.b "tuple")
  | .lst _ => some (.b "list")
  | .scr _ => none
  | .dct _ _ => some (.b "dict")
  | .rat _ => some (.c ratS)
  | .ins c _ _ => if c = ratS then none else some (.c c)
  | _ => none
def tgO : Option O → Option Tg
  | some (.lst _) => some (.b "list")
  | some (.dct _ _) => some (.b "dict")
  | some (.ins c _ _) => if c = ratS then none else some (.c c)
  | some (.fz x) => tgD x
  | some (.fzl _) => some (.b "list")
  | some (.fzd _ _) => some (.b "dict")
  | none => none
def tgW (S : Sto) : W → Option Tg
  | .d x => tgD x
  | .tup _ => some (.b "tuple")
  | .loc n => tgO S[n]?
structure KF (K : PySem.W.Frag) (cs : List Str) : Prop where
  rc : SlX.SCls K (ga K ratS)
  ri : SlX.SIsi K (ga K ratS)
  cl : ∀ c ∈ cs, Cls K (ga K c)
  ci : ∀ c ∈ cs, SlX.SIsi K (ga K c)
  ct : ∀ c ∈ ratS :: cs, ∀ n ∈ ordT, PySem.W.kitOne K (.ref (ga K c)) (.type n) = some false ∧ PySem.W.kitOne K (.type n) (.ref (ga K c)) = some false
  cc : ∀ c ∈ ratS :: cs, ∀ d ∈ ratS :: cs, PySem.W.kitOne K (.ref (ga K c)) (.ref (ga K d)) = some (c == d)
  nr : ratS ∉ cs
def clB (K : PySem.W.Frag) (C : Addr) : Bool := PySem.W.plainGet K C Str.empty && (PySem.W.hasDictIn K C && (PySem.W.plainOver K C && eqO (PySem.W.findIn K (.ref C) "__setattr__") (some (some (.builtin "object.__setattr__")))))
theorem clB_ok {K : PySem.W.Frag} {C : Addr} (h : clB K C = true) : Cls K C := by
  obtain ⟨h1, h⟩ := ba h
  obtain ⟨h2, h⟩ := ba h
  obtain ⟨h3, h4⟩ := ba h
  exact ⟨h1, h2, h3, eqO_ok h4⟩
def kfB (K : PySem.W.Frag) (cs : List Str) : Bool := sclsB K (ga K ratS) && (sisiB K (ga K ratS) && ((cs.all fun c => clB K (ga K c) && sisiB K (ga K c)) && (((ratS :: cs).all fun c => ordT.all fun n => dB (PySem.W.kitOne K (.ref (ga K c)) (.type n)) (some false) && dB (PySem.W.kitOne K (.type n) (.ref (ga K c))) (some false)) &&
  ((ratS :: cs).all fun c => (ratS :: cs).all fun d => dB (PySem.W.kitOne K (.ref (ga K c)) (.ref (ga K d))) (some (c == d))))))
theorem kfB_ok {K : PySem.W.Frag} {cs : List Str} (h : kfB K cs = true) (n : ratS ∉ cs) : KF K cs := by
  obtain ⟨h1, h⟩ := ba h
  obtain ⟨h2, h⟩ := ba h
  obtain ⟨h3, h⟩ := ba h
  obtain ⟨h4, h5⟩ := ba h
  exact ⟨sclsB_ok h1, sisiB_ok h2, fun c hc => clB_ok (ba (List.all_eq_true.mp h3 c hc)).1, fun c hc => sisiB_ok (ba (List.all_eq_true.mp h3 c hc)).2,
    fun c hc n hn => ⟨dB_ok (ba (List.all_eq_true.mp (List.all_eq_true.mp h4 c hc) n hn)).1, dB_ok (ba (List.all_eq_true.mp (List.all_eq_true.mp h4 c hc) n hn)).2⟩,
    fun c hc d hd => dB_ok (List.all_eq_true.mp (List.all_eq_true.mp h5 c hc) d hd), n⟩
def okT (cs : List Str) : Tg → Bool
  | .b n => ordT.contains n
  | .c x => (ratS :: cs).contains x
def isT : Tg → Tg → Bool
  | .b a, .b n => a == n || (a == "bool" && n == "int")
  | .c x, .c y => x == y
  | _, _ => false
theorem kitB_ord : ∀ a ∈ ordT, ∀ n ∈ ordT, kitB a n = some (a == n || (a == "bool" && n == "int")) := by decide +kernel
theorem isT_kit {K : PySem.W.Frag} {cs : List Str} (F : KF K cs) {t c : Tg} (ht : okT cs t = true) (hc : okT cs c = true) : PySem.W.kitOne K (t.v K) (c.v K) = some (isT t c) := by
  cases t with
  | b a =>
    have ha : a ∈ ordT := by simpa [okT] using ht
    cases c with
    | b n => exact kit_ty (kitB_ord a ha n (by simpa [okT] using hc))
    | c y => exact (F.ct y (by simpa [okT] using hc) a ha).2
  | c x =>
    have hx : x ∈ ratS :: cs := by simpa [okT] using ht
    cases c with
    | b n => exact (F.ct x hx n (by simpa [okT] using hc)).1
    | c y => exact F.cc x hx y (by simpa [okT] using hc)
section
variable {X : Cx} {pins : List (Addr × Obj)} {σ : L2.St} {H : Hp} {s : Shared} {F : Addr → Prop} {α : List Addr} {S : Sto} {cs : List Str}
theorem kit_dct {Y : Addr → Prop} {R : HO → Prop} {a : Addr} {ks : List NK} {vs : List V} (hR : ∀ u, R u → ObjOk X.prog X.w H s.heap a u) (h : DictAt X.gx H Y a R ks vs) : PySem.W.KitAt a "dict" s.heap := by
  rcases h with ⟨kvs, h, _⟩ | ⟨es, h, _⟩ | ⟨ps, h, _⟩
  · obtain ⟨_, _, vs, _, o, es, ep, h1, h2, _⟩ := (show ObjOk X.prog X.w H s.heap a (.dK kvs) from hR _ h)
    exact ⟨o, h1, h2.1⟩
  · obtain ⟨⟨_, _, _, us, o, ar, ep, _, h1, h2, _⟩, _⟩ := (show ObjOk X.prog X.w H s.heap a (DnO X.gx a es) from hR _ h)
    exact ⟨o, h1, h2.1⟩
  · obtain ⟨⟨_, _, o, ar, ep, h1, h2, _⟩, _⟩ := (show ObjOk X.prog X.w H s.heap a (MxO a ps) from hR _ h)
    exact ⟨o, h1, h2.1⟩
theorem kit_rep (Fc : KF X.K cs) {Y : Addr → Prop} {x : D} {v : V} {u : Value} {t : Tg} (I : Inv X pins σ H s) (h : Rep X.gx H Y x v) (r : RelV v u) (e : tgD x = some t) (ok : okT cs t = true) :
    ∃ P : Heap → Prop, PySem.W.KitX X.K u (t.v X.K) P ∧ P s.heap ∧ u ≠ .builtin "__main__.__loader__#opaque" := by
  cases x with
  | non => cases e; unfold Rep at h; subst h; exact kit_of I r (.base .non)
  | bl b => cases e; unfold Rep at h; subst h; exact kit_of I r (.base (.bl b))
  | int b => cases e; unfold Rep at h; subst h; exact kit_of I r (.base (.int b))
  | str b => cases e; unfold Rep at h; subst h; exact kit_of I r (.base (.str b))
  | tup xs => cases e; unfold Rep at h; obtain ⟨a, vs, rfl, _, h, _⟩ := h; exact kit_of I r (.base (.tup h))
  | lst xs => cases e; unfold Rep at h; obtain ⟨a, vs, rfl, _, h, _⟩ := h; exact kit_of I r (.base (.lst h))
  | scr xs => cases e
  | dct ks vs =>
    cases e; unfold Rep at h
    obtain ⟨a, vs, rfl, _, h, _⟩ := h
    cases (show u = Value.ref a from r)
    exact ⟨_, PySem.W.kitx_dict, kit_dct (fun u ⟨o, e⟩ => (show ObjOk X.prog X.w H s.heap a (.frz o u) from I.hok a _ e).2) h, fun z => nomatch z⟩
  | rat q =>
    cases e; unfold Rep at h
    obtain ⟨a, dx, rfl, _, _, h⟩ := h
    exact kit_Y Fc.rc Fc.ri I r (.inr ⟨rfl, a, dx, _, rfl, h⟩)
  | ins c fs vs =>
    rw [show tgD (.ins c fs vs) = if c = ratS then none else some (.c c) from rfl] at e
    split at e
    · cases e
    rename_i nc
    cases e; unfold Rep at h
    obtain ⟨a, dx, vs, rfl, _, _, h, _⟩ := h
    have hc : c ∈ cs := by
      have : c ∈ ratS :: cs := by simpa [okT] using ok
      exact (List.mem_cons.mp this).resolve_left nc
    exact kit_of I r (.base (.ins h (Fc.cl c hc) (Fc.ci c hc).ca (Fc.ci c hc).cn (Fc.ci c hc).ct (Fc.ci c hc).cm))
  | ty n => cases e
  | gl n => cases e
theorem kit_w (Fc : KF X.K cs) {x : W} {v : V} {u : Value} {t : Tg} (I : Inv X pins σ H s) (r : Rel X.gx F α S H) (h : RepW X.gx H (XX F α S) α x v) (ru : RelV v u) (e : tgW S x = some t) (ok : okT cs t = true) :
    ∃ P : Heap → Prop, PySem.W.KitX X.K u (t.v X.K) P ∧ P s.heap ∧ u ≠ .builtin "__main__.__loader__#opaque" := by
  cases x with
  | d x => unfold RepW at h; exact kit_rep Fc I h ru e ok
  | tup ws =>
    cases e; unfold RepW at h
    obtain ⟨a, vs, rfl, _, h, _⟩ := h
    exact kit_of I ru (.base (.tup h))
  | loc n =>
    unfold RepW at h
    obtain ⟨a, ea, rfl⟩ := h
    rw [show tgW S (.loc n) = tgO S[n]? from rfl] at e
    generalize eS : S[n]? = oS at e
    unfold tgO at e
    split at e
    · rename_i ws
      have es := eS
      cases e
      obtain ⟨vs, h1, _⟩ := r.obj n a _ ea es
      exact kit_of I ru (.base (.lst h1))
    · rename_i ks ws
      have es := eS
      cases e
      obtain ⟨vs, h1, _⟩ := r.obj n a _ ea es
      cases (show u = Value.ref a from ru)
      exact ⟨_, PySem.W.kitx_dict, kit_dct (fun u e => I.hok a _ e) h1, fun z => nomatch z⟩
    · rename_i c fs ws
      have es := eS
      split at e
      · cases e
      rename_i nc
      cases e
      obtain ⟨dx, vs, h1, _⟩ := r.obj n a _ ea es
      have hc : c ∈ cs := by
        have : c ∈ ratS :: cs := by simpa [okT] using ok
        exact (List.mem_cons.mp this).resolve_left nc
      exact kit_of I ru (.base (.ins h1 (Fc.cl c hc) (Fc.ci c hc).ca (Fc.ci c hc).cn (Fc.ci c hc).ct (Fc.ci c hc).cm))
    · rename_i x
      have es := eS
      exact kit_rep Fc I (r.obj n a _ ea es) ru e ok
    · rename_i ws
      have es := eS
      cases e
      obtain ⟨vs, _, h1, _⟩ := r.obj n a _ ea es
      exact kit_of I ru (.base (.lst h1))
    · rename_i ks ws
      have es := eS
      cases e
      obtain ⟨vs, _, h1, _⟩ := r.obj n a _ ea es
      cases (show u = Value.ref a from ru)
      exact ⟨_, PySem.W.kitx_dict, kit_dct (fun u ⟨o, e⟩ => (show ObjOk X.prog X.w H s.heap a (.frz o u) from I.hok a _ e).2) h1, fun z => nomatch z⟩
    · cases e
def clsD : D → Option Tg
  | .ty n => some (.b n)
  | .gl x => some (.c x)
  | _ => none
def clsW : W → Option Tg
  | .d x => clsD x
  | _ => none
theorem clsD_at {Y : Addr → Prop} {G : Gx} {x : D} {v : V} {t : Tg} (h : Rep G H Y x v) (e : clsD x = some t) : ClsV v (t.v G.K) := by
  unfold clsD at e
  split at e
  · cases e; unfold Rep at h; subst h; exact .ty _
  · cases e; unfold Rep at h; subst h; exact .own _
  · cases e
theorem clsW_at {Y : Addr → Prop} {G : Gx} {x : W} {v : V} {t : Tg} (h : RepW G H Y α x v) (e : clsW x = some t) : ClsV v (t.v G.K) := by
  unfold clsW at e
  split at e
  · unfold RepW at h; exact clsD_at h e
  · cases e
theorem clsWs_at {Y : Addr → Prop} {G : Gx} : ∀ {ws : List W} {vs : List V} {ts : List Tg}, RepWs G H Y α ws vs → mapO clsW ws = some ts → Paired ClsV vs (ts.map (Tg.v G.K))
  | [], vs, ts, h, e => by cases e; unfold RepWs at h; subst h; exact .nil
  | w :: ws, vs, ts, h, e => by
    unfold RepWs at h
    obtain ⟨v, r, rfl, h1, h2⟩ := h
    rw [mapO_cons, Option.bind_eq_some_iff] at e
    obtain ⟨y, e1, e⟩ := e
    rw [Option.bind_eq_some_iff] at e
    obtain ⟨ys, e2, e⟩ := e
    cases e
    exact .cons (clsW_at h1 e1) (clsWs_at h2 e2)
theorem isT_any {K : PySem.W.Frag} (Fc : KF K cs) {t : Tg} (ht : okT cs t = true) : ∀ {ts : List Tg}, ts.all (okT cs) = true → PySem.W.kitAny K (t.v K) (ts.map (Tg.v K)) = some (ts.any (isT t))
  | [], _ => rfl
  | c :: ts, h => by
    rw [List.all_cons, Bool.and_eq_true] at h
    refine kitAny_cons (isT_kit Fc ht h.1) (fun e => ?_) (fun e => by simp [e])
    rw [isT_any Fc ht h.2, List.any_cons, e, Bool.false_or]
def qIsi (cs : List Str) : Pr := pure2 fun S x c => match tgW S x with
  | none => none
  | some t => if okT cs t = true then (match clsW c with
    | some k => if okT cs k = true then some (.d (.bl (isT t k))) else none
    | none => match c.items with
      | none => none
      | some ws => match mapO clsW ws with
        | none => none
        | some ts => if ts.all (okT cs) = true then some (.d (.bl (ts.any (isT t)))) else none) else none
theorem cs_isi (Fc : KF X.K cs) : CallS X (.builtin "isinstance") (qIsi cs) := by
  intro pins s σ H xs us Q I r h
  have h0 := h
  obtain ⟨F', α', S', ws', w', S'', r', hw', e', f'⟩ := h
  have : ∃ x y, ws' = [x, y] := by
    unfold qIsi pure2 at e'
    split at e'
    · exact ⟨_, _, rfl⟩
    · cases e'
  obtain ⟨x, y, rfl⟩ := this
  have : ∃ v1 v2, xs = [v1, v2] := by
    have l := hw'.length
    match xs, l with
    | [a, b], _ => exact ⟨a, b, rfl⟩
  obtain ⟨v1, v2, rfl⟩ := this
  obtain ⟨F, α, S, wx, wy, w, rl, h1, h2, e, q⟩ := rQ_two h0
  obtain ⟨u1, u2, rfl, r1, r2⟩ := vals2 r
  split at e
  · cases e
  rename_i t et
  split at e
  case isFalse => cases e
  rename_i ot
  obtain ⟨P, Z, p, hx⟩ := kit_w Fc I rl h1 r1 et ot
  split at e
  · rename_i k ek
    split at e
    case isFalse => cases e
    rename_i ok
    cases e
    have e2 := (clsW_at h2 ek).eq r2
    subst e2
    exact PySem.W.kia_one Z I.kIn p (isT_kit Fc ot ok) hx fun tk => ⟨.bl _, H, I.tok tk, rfl, q H _ (fun _ _ z => z) (rw_d (rep_bl _))⟩
  · split at e
    · cases e
    rename_i ws ei
    split at e
    · cases e
    rename_i ts em
    split at e
    case isFalse => cases e
    rename_i ok
    cases e
    obtain ⟨tp, vs, rfl, _, hT, hv⟩ := W.items_at h2 ei
    cases (show u2 = Value.ref tp from r2)
    obtain ⟨_, its, rv, o, g1, g2, n, g3⟩ := (show ObjOk X.prog X.w H s.heap tp (.tup vs) from I.hok tp _ hT)
    have e3 := ClsV.all (clsWs_at hv em) rv
    subst e3
    obtain ⟨oc, od, dt, sl⟩ := o
    simp only at g2 g3
    subst g2 g3
    exact PySem.W.kia_tup Z I.kIn p g1 (isT_any Fc ot ok) hx fun tk => ⟨.bl _, H, I.tok tk, rfl, q H _ (fun _ _ z => z) (rw_d (rep_bl _))⟩
end
end Mi
set_option Elab.async false
set_option linter.all false
set_option maxRecDepth 100000
set_option maxHeartbeats 4000000
namespace Mi
open PySem PySem.Spec PyProof.Rows L2 He Wl
def cmB (o : Option PySem.W.CFound) (p R : Addr) : Bool := match o with
  | some (.get (.builtin n) (.ref q) .none (.ref C)) => n == "classmethod.__get__" && (q == p && C == R)
  | _ => false
theorem cmB_ok {o : Option PySem.W.CFound} {p R : Addr} (h : cmB o p R = true) : o = some (.get (.builtin "classmethod.__get__") (.ref p) .none (.ref R)) := by
  unfold cmB at h
  split at h
  · obtain ⟨h1, h⟩ := ba h
    obtain ⟨h2, h3⟩ := ba h
    rw [eq_of_beq h1, eq_of_beq h2, eq_of_beq h3]
  · cases h
def cmetB (K : PySem.W.Frag) (C : Addr) (m : Str) : Bool := PySem.W.readsIn K C (.type "type") && (eqO (PySem.W.specialIn K (.ref C) "__getattribute__") (some (some (.builtin "type.__getattribute__"))) &&
  (cmB (PySem.W.findCls K (.ref C) (.type "type") m) (ma K C m) C && ((match PySem.W.recIn K (ma K C m) "classmethod" with | some (.ref _ :: _) => true | _ => false) && PySem.W.fnIn K (recFn K (ma K C m) "classmethod"))))
theorem cmetB_ok {K : PySem.W.Frag} {C : Addr} {m : Str} (h : cmetB K C m = true) : ClX.CRead K C (.type "type") ∧ ClX.CMet K C (.type "type") m (ma K C m) (recFn K (ma K C m) "classmethod") := by
  obtain ⟨h1, h⟩ := ba h
  obtain ⟨h2, h⟩ := ba h
  obtain ⟨h3, h⟩ := ba h
  obtain ⟨h4, h5⟩ := ba h
  refine ⟨⟨h1, eqO_ok h2⟩, ⟨cmB_ok h3, ?_, h5⟩⟩
  unfold recFn
  split at h4
  · rename_i g rest e
    rw [e]
    exact ⟨rest, rfl⟩
  · cases h4
section
variable {X : Cx} {Wx : WX} {a b c e o : Expr} {es : List Expr} {kws : List Keyword} {ks : List Str} {pos apos p : Pos} {m mo : ME} {mr : MA} {k : Nat} {f C pp g : Addr} {sp : Sp} {kk : MF} {x mn fn : Str} {i : Nat}
def cmM (c : Str) (kk : MF) (mr : MA) : ME := fun τ S => (mr τ S).bind fun ws S1 => kk (.d (.gl c) :: ws) S1
theorem tCm_way {c : Str} (w : Way X.gx sp kk) {σ : L2.St} {H : Hp} {Q : VK} (h : tE X Wx (cmM c kk mr) σ H Q) : tAr X Wx mr σ H fun vs H2 => sp (.ref (ga X.K c) :: vs) H2 Q fun c d H' => Wx c d σ H' :=
  tM_then (R1 := rWs X.gx) (k := fun ws _ S1 => kk (.d (.gl c) :: ws) S1) h fun v H1 ⟨F, α, S, τ, b1, r, sl, q1, f⟩ => w F α S H1 _ _ Q _ r (RepWs.mkC (rw_d (by unfold Rep; rfl)) q1) f
theorem me_cmeth {cn : Str} {pl : Sem Bool} (w : Way X.gx sp kk) (he : PE X o (tC (.ref (ga X.K cn)))) (cm : ClX.CRead X.K (ga X.K cn) (.type "type") ∧ ClX.CMet X.K (ga X.K cn) (.type "type") mn pp g) (F : FnR X.prog X.w X.K X.mg X.base (L2.CX X.prog X.w) k g sp) (hr : Room k X.A) (tk : Takes X Wx) (ha : EA X Wx (e :: es) mr)
    (hst : starEach (e :: es) X.env = (false, eval e X.env) :: starEach es X.env := by rfl) (hpl : (backTo pos (starEach es X.env)).any (·.1) = false := by rfl)
    (ht : eval (.Call (.Attribute o mn apos) (e :: es) [] pos) X.env = (do
      let ov ← eval o X.env
      standAt apos.atName
      let (f, first) ← holding [ov] (getMethod ov mn pl)
      callWith pos f first (backTo pos (starEach (e :: es) X.env)) (backToKw pos (keywordEach [] X.env))) := by rfl) :
    EE X Wx (.Call (.Attribute o mn apos) (e :: es) [] pos) (cmM cn kk mr) := by
  refine ⟨fun pins s σ H Q I h => ?_⟩
  refine PySem.W.methodCall_KW (pl := pl) (thn (he.run pins s σ H (fun v H1 => v = .ref (ga X.K cn) ∧ H1 = H) I ⟨rfl, rfl⟩) fun u s1 ⟨x, H1, I1, rx, ex, eH⟩ => ?_) ht
  subst ex eH
  obtain rfl : u = Value.ref (ga X.K cn) := rx
  refine ClX.getmethcm_ok I1 cm.1 cm.2 fun s2 I2 => ?_
  refine ClX.callwith_cm I2 (ClX.base_none I1 (Nat.le_refl _)) cm.2.fi (thn (ha.run pos _ s2 σ H1 _ I2 (tCm_way w h)) fun us s3 ⟨vs, H2, I3, rv, q2⟩ => ⟨⟨ClX.pin_at I3, I3.kIn⟩, ?_⟩) hst hpl
  have z : wpAny (model X.prog X.w) X.A (call (.ref s1.heap.objs.size) us) (EP X ((s1.heap.objs.size, PySem.W.methodObj (.ref g) (.ref (ga X.K cn))) :: pins) σ Q) X.xe s3 :=
    wpAny_call (PySem.W.method_call (ClX.pin_at I3) (run_T (us := .ref (ga X.K cn) :: us) (vs := .ref (ga X.K cn) :: vs) F hr tk I3 (.cons rfl rv) q2))
  exact thn z fun _ _ y => ClX.unpinE y
theorem PK.imp {kws : List Keyword} {t t' : TA} (h : PK X kws t) (k : ∀ σ H Q, t' σ H Q → t σ H Q) : PK X kws t' := ⟨fun p pins s σ H Q I q => h.run p pins s σ H Q I (k σ H Q q)⟩
def aS (m : ME) (r : MA) : MA := fun τ S => (m τ S).bind fun w S1 => match seqOf S1 w with
  | some us => (r τ S1).bind fun ws S2 => .ok (us ++ ws) S2
  | none => .no
theorem ma_star {sp_ : Pos} (he : EE X Wx e m) (hr : EA X Wx es mr) (hs : starEach (.Starred e sp_ :: es) X.env = (true, eval e X.env) :: starEach es X.env := by rfl) : EA X Wx (.Starred e sp_ :: es) (aS m mr) := by
  refine PA.imp (StX.pa_star he hr hs) fun σ H Q h => ?_
  refine tM_then (R1 := rW X.gx) (k := fun w τ S1 => match seqOf S1 w with
    | some us => (mr τ S1).bind fun ws S2 => .ok (us ++ ws) S2
    | none => .no) h fun v H1 ⟨F, α, S, τ, b1, r, sl, q1, f⟩ => ?_
  dsimp only at f
  split at f
  · rename_i us eu
    obtain ⟨a, vs, e1, h1, h2⟩ := seqOf_at X.K r q1 eu
    refine ⟨a, vs, e1, h1.symm, ?_⟩
    refine ⟨F, α, S, τ, r, sl, ?_⟩
    cases em : mr τ S with
    | no => rw [em] at f; exact f
    | ex c fs xs S' => rw [em] at f; exact f
    | ok ws S2 =>
      rw [em] at f
      intro α' H' zs r' s' hz
      exact f α' H' (vs ++ zs) r' s' (RepWs.append hz (RepWs.stp s' h2))
  · exact f.elim
def fmtW : W → Option Str
  | .d (.str y) => if y.length ≤ 1000000 then some y else none
  | .d (.int i) => if i.natAbs.log2 < 1920 then some (toString i) else none
  | _ => none
def fmK (w : W) (S1 : Sto) : Res W := match fmtW w with
  | some y => .ok (.d (.str y)) S1
  | none => .no
def fmM (m : ME) : ME := fun τ S => (m τ S).bind fun w S1 => fmK w S1
theorem me_fmt (he : EE X Wx e m) : EE X Wx (.FormattedValue e (-1) none pos) (fmM m) := PE.imp (pe_fmt he) fun σ H Q h => by
  refine tM_then (R1 := rW X.gx) (k := fun w τ S1 => fmK w S1) h fun v H1 ⟨F, α, S, τ, b1, r, sl, q1, f⟩ => ?_
  unfold fmK at f
  dsimp only at f
  split at f
  · rename_i y ey
    unfold fmtW at ey
    split at ey
    · split at ey
      · rename_i hl
        cases ey
        unfold rW RepW Rep at q1
        exact .inl ⟨_, q1, thou hl, f α H1 _ r Stp.refl (rw_d (rep_str _))⟩
      · cases ey
    · split at ey
      · rename_i hl
        cases ey
        unfold rW RepW Rep at q1
        exact .inr ⟨_, q1, hl, f α H1 _ r Stp.refl (rw_d (rep_str _))⟩
      · cases ey
    · cases ey
  · exact f.elim
inductive EJ (X : Cx) (Wx : WX) : List Expr → List ME → Prop where
  | nil : EJ X Wx [] []
  | cons {e : Expr} {m : ME} {es : List Expr} {ms : List ME} (h : EE X Wx e m) (r : EJ X Wx es ms) : EJ X Wx (e :: es) (m :: ms)
def jsM : List ME → Str → ME
  | [], acc => fun _ S => .ok (.d (.str acc)) S
  | m :: ms, acc => fun τ S => (m τ S).bind fun w S1 => match w with
    | .d (.str y) => if (acc ++ y).length ≤ 1000000 then jsM ms (acc ++ y) τ S1 else .no
    | _ => .no
theorem ej_pj {es : List Expr} {ms : List ME} (h : EJ X Wx es ms) : PJ X es (ms.map (tE X Wx)) := by
  induction h with
  | nil => exact .nil
  | cons h r ih => exact .cons h ih
theorem js_of : ∀ (ms : List ME) (acc : Str) {σ : L2.St} {H : Hp} {Q : VK}, tE X Wx (jsM ms acc) σ H Q → tJs (ms.map (tE X Wx)) acc σ H fun out H1 => Q (.str out) H1
  | [], acc, σ, H, Q, ⟨F, α, S, τ, r, sl, f⟩ => f α H _ r Stp.refl (rw_d (rep_str _))
  | m :: ms, acc, σ, H, Q, h => by
    refine tM_then (R1 := rW X.gx) (k := fun (w : W) τ S1 => match w with
      | .d (.str y) => if (acc ++ y).length ≤ 1000000 then jsM ms (acc ++ y) τ S1 else .no
      | _ => .no) h fun v H1 ⟨F, α, S, τ, b1, r, sl, q1, f⟩ => ?_
    dsimp only at f
    split at f
    · rename_i y
      split at f
      · rename_i hl
        unfold rW RepW Rep at q1
        exact ⟨y, q1, thou hl, js_of ms (acc ++ y) ⟨F, α, S, τ, r, sl, f⟩⟩
      · exact f.elim
    · exact f.elim
theorem me_joined {v1 v2 : Expr} {rest : List Expr} {ms : List ME} (h : EJ X Wx (v1 :: v2 :: rest) ms) : EE X Wx (.JoinedStr (v1 :: v2 :: rest) pos) (jsM ms Str.empty) := PE.imp (pe_joined (ej_pj h)) fun σ H Q h => js_of ms Str.empty h
end
end Mi
set_option Elab.async false
set_option linter.all false
set_option maxRecDepth 100000
set_option maxHeartbeats 4000000
namespace Mi
open PySem PySem.Spec PyProof.Rows L2 He Wl
structure Cl where
  c : Str
  f : Option Str
  w : Str
def exIs (cx : List Str) (b c C : Str) : Option Bool := if c ∈ cx then (if C = b then some true else if C ∈ cx then some (c == C) else none) else none
def ExF (K : PySem.W.Frag) (cx : List Str) (b : Str) : Prop := ∀ c ∈ cx, ∀ C ∈ b :: cx, PySem.W.exmOne K (.ref (ga K c)) (.ref (ga K C)) = some (C == b || c == C)
def exfB (K : PySem.W.Frag) (cx : List Str) (b : Str) : Bool := cx.all fun c => (b :: cx).all fun C => dB (PySem.W.exmOne K (.ref (ga K c)) (.ref (ga K C))) (some (C == b || c == C))
theorem exfB_ok {K : PySem.W.Frag} {cx : List Str} {b : Str} (h : exfB K cx b = true) : ExF K cx b := fun c hc C hC => dB_ok (List.all_eq_true.mp (List.all_eq_true.mp h c hc) C hC)
theorem exIs_ok {K : PySem.W.Frag} {cx : List Str} {b c C : Str} {r : Bool} (h : ExF K cx b) (e : exIs cx b c C = some r) : PySem.W.exmOne K (.ref (ga K c)) (.ref (ga K C)) = some r := by
  unfold exIs at e
  split at e
  · rename_i hc
    split at e
    · rename_i hb
      cases e
      rw [h c hc C (by rw [hb]; exact List.mem_cons_self), hb]; simp
    · rename_i hb
      split at e
      · rename_i hC
        cases e
        rw [h c hc C (List.mem_cons_of_mem _ hC)]
        have : (C == b) = false := by simpa using hb
        rw [this]; simp
      · cases e
  · cases e
inductive ClOk (K : PySem.W.Frag) : List Cl → List (Value × Option Nat × Sut) → Prop
  | nil : ClOk K [] []
  | fld {c f w : Str} {i : Nat} {l : List Cl} {l' : List (Value × Option Nat × Sut)} (r : ClOk K l l') :
      ClOk K (⟨c, some f, w⟩ :: l) ((.ref (ga K c), some i, fun a cls d => tRet (tTup (tCons (tC (.str w)) (tCons (tXf a cls d (ga K c) f (tVar i)) tNil)))) :: l')
  | non {c w : Str} {l : List Cl} {l' : List (Value × Option Nat × Sut)} (r : ClOk K l l') :
      ClOk K (⟨c, none, w⟩ :: l) ((.ref (ga K c), none, fun _ _ _ => tRet (tTup (tCons (tC (.str w)) tNil))) :: l')
theorem lookup_rep {G : Gx} {H : Hp} {Y : Addr → Prop} {α : List Addr} {f : Str} : ∀ {fs : List Str} {ws : List W} {vs : List V} {w : W}, RepWs G H Y α ws vs → (fs.zip ws).lookup f = some w → ∃ v, (fs.zip vs).lookup f = some v ∧ RepW G H Y α w v
  | [], ws, vs, w, h, e => by rw [List.zip_nil_left] at e; cases e
  | g :: fs, [], vs, w, h, e => by rw [List.zip_nil_right] at e; cases e
  | g :: fs, x :: ws, vs, w, h, e => by
    unfold RepWs at h
    obtain ⟨v, rr, rfl, h1, h2⟩ := h
    rw [List.zip_cons_cons, List.lookup_cons] at e
    rw [List.zip_cons_cons, List.lookup_cons]
    split at e
    · cases e; exact ⟨v, rfl, h1⟩
    · exact lookup_rep h2 e
theorem two_le {a b : V} : [a, b].length ≤ sizeLine := show 2 ≤ sizeLine by decide
theorem one_le {a : V} : [a].length ≤ sizeLine := show 1 ≤ sizeLine by decide
section
variable {X : Cx} {Wx : WX} {body : List Stmt} {h₀ : ExceptHandler} {hds : List ExceptHandler} {l : List Cl} {l' : List (Value × Option Nat × Sut)} {pos : Pos} {mb : MS} {cx : List Str} {b : Str}
end
end Mi
set_option Elab.async false
set_option linter.all false
set_option maxRecDepth 100000
set_option maxHeartbeats 4000000
namespace Mi
open PySem PySem.Spec PySem.Calls PyProof.Rows PySem.W
section
variable {M : Model} {K : PySem.W.Frag}
theorem exmAny_all {cls : Value} : ∀ {cs : List Value} {b : Bool}, exmAny K cls cs = some b → ∀ c ∈ cs, ∃ d, exmOne K cls c = some d
  | [], b, h, c, hc => by cases hc
  | x :: cs, b, h, c, hc => by
    obtain ⟨b1, d1, h1, h2, _⟩ := exmAny_cons h
    rcases List.mem_cons.mp hc with rfl | hc
    · exact ⟨b1, h1⟩
    · exact exmAny_all h2 c hc
theorem exm_tup {cs : List Value} {cls : Value} {tp e : Addr} {b : Bool} {h : Heap} (X : K.In h) (LT : Looks M h (typeOf (.ref e)) cls) (hp : h.get? tp = some { cls := .type "tuple", data := .seq cs.toArray }) (hx : exmAny K cls cs = some b) :
    Looks M h (excMatches (.ref e) (.ref tp)) b := by
  intro A Q E s k₀ q
  obtain ⟨hh, g, d, tk, os⟩ := s
  have k : ∀ b o, h.get? b = some o → hh.get? b = some o := k₀
  have LT0 : Looks M h (isInstance (.ref tp) (.type "tuple")) true := ((Looks.ld hp).andThen .now).andThen (Looks.of_pure isSubtype_tuple_tuple)
  have LT := LT.keeps k
  have LT0 := LT0.keeps k
  have hp' := k _ _ hp
  have al : ∀ c ∈ cs, Looks M hh (isExcClass c) true := fun c hc => by
    obtain ⟨d, hd⟩ := exmAny_all hx c hc
    exact (exm_cls (M := M) X hd).1.keeps k
  unfold excMatches
  refine wpAny_bind (LT0.at ?_)
  dsimp only
  rw [if_pos rfl]
  first
    | refine wpAny_bind (wpAny_seqItems hp' rfl ?_)
    | refine wpAny_bind (wpAny_bind (wpAny_seqItems hp' rfl (wpAny_pure ?_)))
  dsimp only [Option.getD_some, Option.getD]
  refine wpAny_bind (wpAny_pure (wpAny_bind ?_))
  refine wpAny_forIn_list _ (fun rest _ s' => s' = (⟨hh, g, d, tk, os⟩ : Shared) ∧ ∀ c ∈ rest, c ∈ cs) _ ?_ ?_ _ _ ⟨rfl, fun c hc => hc⟩
  · rintro c rest u s' ⟨rfl, hall⟩
    have L := al c (hall c List.mem_cons_self)
    refine wpAny_bind (L.at ?_)
    simp only [Bool.not_true, Bool.false_eq_true, if_false]
    exact wpAny_pure ⟨rfl, fun c hc => hall c (List.mem_cons_of_mem _ hc)⟩
  · rintro u s' ⟨rfl, _⟩
    refine wpAny_bind (LT.at ?_)
    refine wpAny_bind ?_
    refine wpAny_forIn_list _ (fun rest r s' => s' = (⟨hh, g, d, tk, os⟩ : Shared) ∧ r = (none, ()) ∧ exmAny K cls rest = some b) _ ?_ ?_ _ _ ⟨rfl, rfl, hx⟩
    · rintro c rest r s' ⟨rfl, rfl, hr⟩
      obtain ⟨b1, d1, h1, h2, rfl⟩ := exmAny_cons hr
      have S := (exm_cls (M := M) X h1).2.keeps k
      refine wpAny_bind (S.at ?_)
      cases b1 with
      | true =>
        rw [if_pos rfl]
        exact wpAny_pure (wpAny_pure q)
      | false =>
        rw [if_neg Bool.false_ne_true]
        exact wpAny_pure ⟨rfl, rfl, by rw [h2]; rfl⟩
    · rintro r s' ⟨rfl, rfl, hr⟩
      cases hr
      exact wpAny_pure q
end
end Mi
namespace Mi
open PySem PySem.Spec PyProof.Rows L2
def rIsX (K : PySem.W.Frag) (a : Addr) (cls : Value) (d : Option Addr) : List V → Hp → VK → Prop := fun xs H Q => ∃ (D : Addr) (c : V) (cv : Value) (b : Bool), cls = .ref D ∧ L2.ExcC K D ∧ xs = [.ref a, c] ∧ (∀ u, RelV c u → u = cv) ∧ PySem.W.kitOne K (.ref D) cv = some b ∧ (d = none ∨ ∃ dd fs, d = some dd ∧ H dd = some (.xd fs)) ∧ Q (.bl b) H
theorem call_isX {X : Cx} {a : Addr} {oe : Obj} {cls : Value} {d : Option Addr} {pn : List (Addr × Obj)} (hz : Zc cls d oe) (hf : ∃ vs, oe.data = .fields vs) : CallR (X.suite a ((a, oe) :: pn)) (.builtin "isinstance") (rIsX X.K a cls d) := by
  intro pins s σ H xs us Q I r h
  obtain ⟨D, c, cv, b, rfl, C, rfl, hcv, e, hd, q⟩ := h
  cases r with
  | cons rx rr =>
    cases rr with
    | cons rt rr =>
      cases rr
      cases rx
      have ec := hcv _ rt
      subst ec
      obtain ⟨hget, _⟩ := I.pin (a, oe) (List.mem_append.mpr (.inl List.mem_cons_self))
      obtain ⟨vs, hv⟩ := hf
      have hcl : (PySem.W.clsIn X.K D).isSome = true := by
        obtain ⟨cd, hc, _⟩ := PySem.W.any_some C.hd
        rw [hc]; rfl
      have J : ∃ od : Option Obj, PySem.W.InstAt s.heap a oe D od := by
        have nc : PySem.W.notCls oe := by unfold PySem.W.notCls; rw [hv] <;> rfl
        rcases hd with rfl | ⟨dd, fs, rfl, ea⟩
        · exact ⟨none, hget, hz.1, nc, by rw [hz.2]; trivial⟩
        · have hx : ObjOk X.prog X.w H s.heap dd (.xd fs) := I.hok dd _ ea
          obtain ⟨mA, hns, hr⟩ := hx
          obtain ⟨od, ho, hl⟩ := lookIn_ns hns
          exact ⟨some od, hget, hz.1, nc, by rw [hz.2]; exact ho⟩
      obtain ⟨od, J⟩ := J
      exact PySem.W.kia_one (PySem.W.kitx_exc hcl C.hg C.hk C.hs C.ha C.hn C.ht C.hm) I.kIn J e (fun z => nomatch z) fun tk => ⟨.bl b, H, I.kept (t' := tk) fun _ _ z => z, rfl, q⟩
end Mi
set_option Elab.async false
set_option linter.all false
set_option maxRecDepth 100000
set_option maxHeartbeats 4000000
namespace Mi
open PySem PySem.Spec PyProof.Rows L2 He Wl
inductive NmL (X : Cx) : List Expr → List Value → Prop
  | nil : NmL X [] []
  | cons {x : Str} {np : Pos} {c : Value} {es : List Expr} {cs : List Value} (hc : Names X x c) (r : NmL X es cs) : NmL X (.Name x np :: es) (c :: cs)
inductive TestOk (X : Cx) : Expr → List Value → Prop
  | one {x : Str} {np : Pos} {c : Value} (hc : Names X x c) : TestOk X (.Name x np) [c]
  | tup {es : List Expr} {cs : List Value} {k} {tp : Pos} (hn : NmL X es cs) (hl : cs.length ≤ sizeLine) : TestOk X (.Tuple es k tp) cs
def wMixT (K : PySem.W.Frag) (Wout : WX) (D : Ends) : List (List Value × Option Nat × Sut) → WX
  | [] => Wout
  | (cs, o, ts) :: r => fun cls d σ H => ∃ b, PySem.W.exmAny K cls cs = some b ∧ (b = true → ∀ a, H a = none → match o with
      | none => ts a cls d D σ H
      | some i => ts a cls d (endAs i D) (σ.set i (some (.ref a))) H) ∧ (b = false → wMixT K Wout D r cls d σ H)
inductive MixOkT (X : Cx) : List ExceptHandler → List (List Value × Option Nat × Sut) → Prop
  | nil : MixOkT X [] []
  | plain {t : Expr} {cs : List Value} {ts : Sut} {b₀ : Stmt} {suite : List Stmt} {pos' : Pos} {hds : List ExceptHandler} {l : List (List Value × Option Nat × Sut)} (hc : TestOk X t cs)
      (hsu : ∀ (a : Addr) (oe : Obj) (cls : Value) (d : Option Addr) (pn : List (Addr × Obj)), Zc cls d oe → (∃ vs, oe.data = .fields vs) → PSs (X.suite a ((a, oe) :: pn)) (b₀ :: suite) (ts a cls d)) (r : MixOkT X hds l) :
      MixOkT X (.ExceptHandler (some t) none (b₀ :: suite) pos' :: hds) ((cs, none, ts) :: l)
  | named {t : Expr} {n : Str} {i : Nat} {cs : List Value} {ts : Sut} {b₀ : Stmt} {suite : List Stmt} {pos' : Pos} {hds : List ExceptHandler} {l : List (List Value × Option Nat × Sut)} (hN : X.N.Nodup) (hi : X.N[i]? = some n) (hln : X.env.kindOf n = some .local) (hc : TestOk X t cs)
      (hsu : ∀ (a : Addr) (oe : Obj) (cls : Value) (d : Option Addr) (pn : List (Addr × Obj)), Zc cls d oe → (∃ vs, oe.data = .fields vs) → PSs (X.suite a ((a, oe) :: pn)) (b₀ :: suite) (ts a cls d)) (r : MixOkT X hds l) :
      MixOkT X (.ExceptHandler (some t) (some n) (b₀ :: suite) pos' :: hds) ((cs, some i, ts) :: l)
theorem fly_keep {B h h' : Heap} {l : List Env} {a : Addr} {Z : Obj → Prop} (x : HandSPX.FlyingZ B l a Z h) (k : ∀ b o, h.get? b = some o → h'.get? b = some o) : HandSPX.FlyingZ B l a Z h' := by
  obtain ⟨f1, f2, f3, oe, vs, T, oT, ts, g1, g2, g3, g4, g5, g6, g7, g8, g9⟩ := x
  exact ⟨fun b u e => k _ _ (f1 b u e), f2, Heap.FunFrames.of_keeps (fun b u e _ => ⟨u, k _ _ e, rfl⟩) f3, oe, vs, T, oT, ts, k _ _ g1, g2, g3, g4, g5, g6, k _ _ g7, g8, g9⟩
section
variable {X : Cx} {body : List Stmt} {h₀ : ExceptHandler} {hds : List ExceptHandler} {l : List (List Value × Option Nat × Sut)} {pos : Pos} {tb : WX → TS} {Wout : WX}
theorem ps_try_mixT (hs : X.stack = X.env :: X.outer) (hf : X.env.frame = some X.env.locals) (tk : Takes X Wout)
    (hb : ∀ (W : WX) (pn : List (Addr × Obj)) (xe : Value → Shared → Prop), Takes (X.tr pn xe) W → PassesOwn (model X.prog X.w) X.A X.env xe → PSs (X.tr pn xe) body (tb W))
    (hh : MixOkT X (h₀ :: hds) l) : PS X (.Try body (h₀ :: hds) [] [] pos) (fun D σ H => tb (wMixT X.K Wout D l) D σ H) := by
  refine ⟨fun pins s σ H D I h => ?_⟩
  have ok := I.ok
  refine wpAny_Try_except (wpAny_mono ((hb (wMixT X.K Wout D l) (X.pn ++ pins) _ (fun u s' xx => ?c1) PassesOwn.looking).run [] s σ H D (I.toTry _) h) (fun f s1 hsp => ?c2) (fun e s1 he => he))
  case c2 =>
    cases f with
    | ret u => obtain ⟨v, σ', H', J', r, q⟩ := hsp; exact ⟨v, σ', H', J'.ofTry ok, r, q⟩
    | next => obtain ⟨σ', H', J', q⟩ := hsp; exact wpAny_execs_nil ⟨σ', H', J'.ofTry ok, q⟩
    | brk => obtain ⟨σ', H', J', q⟩ := hsp; exact ⟨σ', H', J'.ofTry ok, q⟩
    | cont => obtain ⟨σ', H', J', q⟩ := hsp; exact ⟨σ', H', J'.ofTry ok, q⟩
  case c1 =>
    obtain ⟨a, B, sI, pins', σ', H', cls, d, rfl, J', nb, up, sky, na, os, ag, w⟩ := xx
    have J : Inv X pins σ' H' sI := J'.ofTry ok
    rw [hs] at sky
    refine Sky.land Zc.steady (by rw [ok.frames, hs]) hf sky fun h3 fl3 up3 => ?_
    have nofr : ∀ {h : Heap}, HandSPX.FlyingZ B (X.env :: X.outer) a (Zc cls d) h → a ∉ frs (X.env :: X.outer) := fun {h} fl hm => by
      obtain ⟨oe3, vs3, he3, hz3, hd3⟩ := fl.there
      obtain ⟨_, o', e', hnf⟩ := (fl.2.2.1).mem hm
      rw [he3] at e'; cases e'; exact hnf _ hd3
    have nL : a ≠ X.env.locals := fun z => nofr fl3 (List.mem_filterMap.mpr ⟨X.env, List.mem_cons_self, by rw [hf, z]⟩)
    have nF : a ∉ X.fs := fun hm => by
      obtain ⟨e, he, q⟩ := List.mem_filterMap.mp hm
      exact nofr fl3 (List.mem_filterMap.mpr ⟨e, List.mem_cons_of_mem _ he, q⟩)
    have test : ∀ {s2 : Shared} {t : Expr} {cs : List Value} {bb : Bool} {Q : Value → Shared → Prop} {E : Value → Shared → Prop}, HandSPX.FlyingZ B (X.env :: X.outer) a (Zc cls d) s2.heap → Inv X pins σ' H' s2 → TestOk X t cs → PySem.W.exmAny X.K cls cs = some bb →
        (∀ v s4, (∀ b o, s2.heap.get? b = some o → s4.heap.get? b = some o) → s4.os = s2.os → s4.gens = s2.gens → PySem.W.Looks (model X.prog X.w) s4.heap (excMatches (.ref a) v) bb → Q v s4) → wpAny (model X.prog X.w) (X.A.mark (some (.ref a))) (eval t X.env) Q E s2 := by
      intro s2 t cs bb Q E fl2 J2 ht hb q
      obtain ⟨oe3, vs3, he3, hz3, hd3⟩ := fl2.there
      have S3 := J2.suite he3 hd3 na nL nF
      have nm : ∀ {x : Str} {np : Pos} {c : Value} {Q : Value → Shared → Prop}, Names X x c → Q c s2 → wpAny (model X.prog X.w) (X.A.mark (some (.ref a))) (eval (.Name x np) X.env) Q E s2 := fun {x np c Q} hc q => by
        obtain ⟨hg, hdbg, hm | ⟨hm, hv, hnn⟩⟩ := hc
        · exact ld_glob (X := X.suite a ((a, oe3) :: (X.pn ++ pins))) S3 hg hm q hdbg
        · exact ld_blt (X := X.suite a ((a, oe3) :: (X.pn ++ pins))) S3 hg hm hv q hnn hdbg
      cases ht with
      | @one x np c hc =>
        have LT : PySem.W.Looks (model X.prog X.w) s2.heap (typeOf (.ref a)) cls := fun A Q E s k q => wpAny_typeOf_ref (k _ _ he3) (by rw [hz3.1]; exact q)
        obtain ⟨b1, d1, h1, h2, e⟩ := PySem.W.exmAny_cons hb
        have : d1 = false := by cases h2; rfl
        rw [this, Bool.or_false] at e
        exact nm hc (q c s2 (fun _ _ z => z) rfl rfl (by rw [e]; exact PySem.W.exm_one (M := model X.prog X.w) (J2.kIn) LT h1))
      | @tup es cs k tp hn hl =>
        have sp : ∀ {es : List Expr} {cs : List Value} {Q : List Value → Shared → Prop}, NmL X es cs → Q cs s2 → wpAny (model X.prog X.w) (X.A.mark (some (.ref a))) (spliced (backTo tp (starEach es X.env))) Q E s2 := by
          intro es cs Q hn
          induction hn generalizing Q with
          | nil => intro q; exact PySem.Calls.spliced_nil q
          | @cons x np c es cs hc r ih =>
            intro q
            have hs : starEach (.Name x np :: es) X.env = (false, eval (.Name x np) X.env) :: starEach es X.env := rfl
            rw [hs]
            show wpAny _ _ (spliced ((false, eval (.Name x np) X.env) :: backTo tp (starEach es X.env))) _ _ s2
            exact PySem.Calls.spliced_cons (nm hc (ih q))
        refine wpAny_Tuple_spliced (sp hn ⟨hl, ?_⟩)
        have kp : ∀ b o, s2.heap.get? b = some o → (s2.heap.push { cls := .type "tuple", data := .seq cs.toArray }).get? b = some o := fun b o e => Heap.get?_push_of_some _ e
        have J4 : Inv X pins σ' H' { s2 with heap := s2.heap.push { cls := .type "tuple", data := .seq cs.toArray } } := J2.kept (t' := s2.toks) kp
        have LT : PySem.W.Looks (model X.prog X.w) (s2.heap.push { cls := .type "tuple", data := .seq cs.toArray }) (typeOf (.ref a)) cls := fun A Q E s k q => wpAny_typeOf_ref (k _ _ (kp _ _ he3)) (by rw [hz3.1]; exact q)
        exact q _ _ kp rfl rfl (exm_tup J4.kIn LT (Heap.get?_push_size _ rfl) hb)
    have go : ∀ {hds' : List ExceptHandler} {l' : List (List Value × Option Nat × Sut)}, MixOkT X hds' l' → ∀ s2 : Shared, HandSPX.FlyingZ B (X.env :: X.outer) a (Zc cls d) s2.heap → sI.heap.UpToSlots s2.heap → s2.os = sI.os → AllBare s2.gens → wMixT X.K Wout D l' cls d σ' H' →
        wpAny (model X.prog X.w) X.A (handleBy (.ref a) X.env hds') (SP X pins D) X.xe s2 := by
      intro hds' l' hk
      induction hk with
      | nil =>
        intro s2 fl2 up2 os2 ag2 w
        refine wpAny_handleBy_nil ?_
        obtain ⟨k1, k2, k3, oe, vs, T, oT, ts', he, hz, hd, h1, hr⟩ := id fl2
        unfold PySem.passOn
        refine wpAny_bind (wpAny_field he hd h1 ?_)
        rw [if_neg (show ¬ ((Value.ref T == Value.none) = true) from by simp), hf]
        have fin : wpAny (model X.prog X.w) X.A (setFlight (.ref a) (some X.env.locals)) (fun _ s4 => wpAny (model X.prog X.w) X.A (throw (.ref a) : Sem Flow) (SP X pins D) X.xe s4) X.xe s2 :=
          HandSPX.setFlight_upZ fl2 fun h4 hh4 up4 => wpAny_throw (tk _ _ ⟨a, B, sI, pins, σ', H', cls, d, rfl, J, nb, up2.trans up4, .inr (.inr (by rw [hs]; exact hh4)), na, os2, ag2, w⟩)
        first
          | exact wpAny_bind (wpAny_pure (wpAny_bind fin))
          | exact wpAny_bind fin
      | @plain t cs ts b₀ suite pos' hds2 l2 hc hsu r ih =>
        rintro s2 fl2 up2 os2 ag2 ⟨b, hb1, hyes, hno⟩
        have J2 : Inv X pins σ' H' s2 := J.landed nb fl2.1 up2 os2 ag2
        refine wpAny_handleBy_cons (codeAny_handlers_test (test fl2 J2 hc hb1 fun v s4 k4 o4 g4 LL => LL.here ?_)) (by intro q; cases q)
        cases b with
        | false => exact ih s4 (fly_keep fl2 k4) (up2.trans (Heap.UpToSlots.of_keeps k4)) (o4.trans os2) (by rw [g4]; exact ag2) (hno rfl)
        | true =>
          refine codeAny_handlers_suite (HandSPX.lands_againZ (fly_keep fl2 k4) fun h4 fl4 up4 => ?_)
          obtain ⟨oe4, vs4, he4, hz4, hd4⟩ := fl4.there
          have S4 := (show Inv X pins σ' H' { s4 with heap := h4 } from J.landed nb fl4.1 ((up2.trans (Heap.UpToSlots.of_keeps k4)).trans up4) (o4.trans os2) (by rw [g4]; exact ag2)).suite he4 hd4 na nL nF
          refine wpAny_mono ((hsu a oe4 cls d (X.pn ++ pins) hz4 ⟨_, hd4⟩).run [] _ _ H' _ S4 (hyes rfl a na)) (fun f s6 hsp => ?_) (fun _ _ z => False.elim z)
          cases f with
          | ret u => obtain ⟨v6, σ6, H6, S6, r6, q6⟩ := hsp; exact ⟨_, _, _, S6.unsuite ok, r6, q6⟩
          | next => obtain ⟨σ6, H6, S6, q6⟩ := hsp; exact ⟨_, _, S6.unsuite ok, q6⟩
          | brk => obtain ⟨σ6, H6, S6, q6⟩ := hsp; exact ⟨_, _, S6.unsuite ok, q6⟩
          | cont => obtain ⟨σ6, H6, S6, q6⟩ := hsp; exact ⟨_, _, S6.unsuite ok, q6⟩
      | @named t n i cs ts b₀ suite pos' hds2 l2 hN hi hln hc hsu r ih =>
        rintro s2 fl2 up2 os2 ag2 ⟨b, hb1, hyes, hno⟩
        have J2 : Inv X pins σ' H' s2 := J.landed nb fl2.1 up2 os2 ag2
        refine wpAny_handleBy_cons (codeAny_handlers_test (test fl2 J2 hc hb1 fun v s4 k4 o4 g4 LL => LL.here ?_)) (by intro q; cases q)
        cases b with
        | false => exact ih s4 (fly_keep fl2 k4) (up2.trans (Heap.UpToSlots.of_keeps k4)) (o4.trans os2) (by rw [g4]; exact ag2) (hno rfl)
        | true =>
          refine codeAny_handlers_suite_as (HandSPX.lands_againZ (fly_keep fl2 k4) fun h4 fl4 up4 => ?_)
          obtain ⟨oe4, vs4, he4, hz4, hd4⟩ := fl4.there
          have S4 := (show Inv X pins σ' H' { s4 with heap := h4 } from J.landed nb fl4.1 ((up2.trans (Heap.UpToSlots.of_keeps k4)).trans up4) (o4.trans os2) (by rw [g4]; exact ag2)).suite he4 hd4 na nL nF
          refine store_ok (X := X.suite a ((a, oe4) :: (X.pn ++ pins))) (v := .ref a) S4 hN hi (.inl hln) rfl (fun s5 S5 => ?_) (.inr hln)
          refine wpAny_mono ((hsu a oe4 cls d (X.pn ++ pins) hz4 ⟨_, hd4⟩).run [] s5 _ H' _ S5 (hyes rfl a na)) (fun f s6 hsp => ?_) (fun _ _ z => False.elim z)
          have over : ∀ {σ6 : L2.St} {H6 : Hp} {Q : Shared → Prop}, Inv (X.suite a ((a, oe4) :: (X.pn ++ pins))) [] σ6 H6 s6 → (∀ s7, Inv X pins (σ6.set i none) H6 s7 → Q s7) →
              wpAny (model X.prog X.w) X.A (do bindName X.env n .none; unbindBehindTheSuite X.env n pos') (fun _ s7 => Q s7) X.xe s6 := fun {σ6 H6 Q} S6 hq => gone_ok (S6.unsuite ok) hN hi hln hq
          cases f with
          | ret u => obtain ⟨v6, σ6, H6, S6, r6, q6⟩ := hsp; exact over S6 fun s7 J7 => ⟨_, _, _, J7, r6, q6⟩
          | next => obtain ⟨σ6, H6, S6, q6⟩ := hsp; exact over S6 fun s7 J7 => ⟨_, _, J7, q6⟩
          | brk => obtain ⟨σ6, H6, S6, q6⟩ := hsp; exact over S6 fun s7 J7 => ⟨_, _, J7, q6⟩
          | cont => obtain ⟨σ6, H6, S6, q6⟩ := hsp; exact over S6 fun s7 J7 => ⟨_, _, J7, q6⟩
    exact go hh { s' with heap := h3 } fl3 (up.trans up3) os ag w
end
end Mi
set_option Elab.async false
set_option linter.all false
set_option maxRecDepth 100000
set_option maxHeartbeats 4000000
namespace Mi
open PySem PySem.Spec PyProof.Rows L2 He Wl
inductive Cl2
  | one (C : Str) (f : Option Str) (w : Str)
  | many (Cs : List Str) (f : Str) (i j : Nat) (Is : List Str) (m : ME)
  | many2 (Cs : List Str) (f : Str) (i j : Nat) (Is Js : List Str) (m : ME)
def Cl2.test : Cl2 → List Str
  | .one C _ _ => [C]
  | .many Cs _ _ _ _ _ => Cs
  | .many2 Cs _ _ _ _ _ _ => Cs
def mkLst (ws : List W) (S : Sto) : W × Sto := match onlyD ws with
  | some ds => (.d (.lst ds), S)
  | none => (.loc S.length, S ++ [.lst ws])
theorem mkLst_rep {G : Gx} {H H' : Hp} {F : Addr → Prop} {α : List Addr} {S : Sto} {ws : List W} {vs : List V} {t : Addr} (r : Rel G F α S H) (sm : Same H H') (nt : H t = none) (ht : H' t = some (.lst vs)) (h : RepWs G H (XX F α S) α ws vs) :
    ∃ α', Rel G F α' (mkLst ws S).2 H' ∧ Stp α S H α' (mkLst ws S).2 H' ∧ RepW G H' (XX F α' (mkLst ws S).2) α' (mkLst ws S).1 (.ref t) := by
  unfold mkLst
  split
  · rename_i ds e
    rw [onlyD_eq e] at h
    refine ⟨α, r.same sm, Stp.same sm, rw_d ?_⟩
    unfold Rep
    exact ⟨t, vs, rfl, r.fresh nt, ht, (d_reps h).stay (Stp.same (α := α) (S := S) sm).stay⟩
  · obtain ⟨r2, s2, h2⟩ := new_lst r sm nt ht h
    exact ⟨_, r2, s2, h2⟩
def exIsL (cx : List Str) (b c : Str) : List Str → Option Bool
  | [] => some false
  | C :: r => match exIs cx b c C, exIsL cx b c r with
    | some x, some y => some (x || y)
    | _, _ => none
def isAns (c : Str) (Is : List Str) : List D := Is.map (fun I => .bl (c == I)) ++ [.bl true]
def clRun2 (cx : List Str) (c : Str) (fs : List Str) (ws : List W) (τ : Sl) (S : Sto) : Cl2 → Option (W × Sto)
  | .one _ none w => some (mkLst [.d (.str w)] S)
  | .one C (some f) w => if c = C ∧ fs.length = ws.length then ((fs.zip ws).lookup f).map fun x => mkLst [.d (.str w), x] S else none
  | .many Cs f i j Is m => if (c ∈ Cs ∧ c ∈ cx) ∧ (Is.all fun I => decide (I ∈ cx)) = true ∧ fs.length = ws.length ∧ i ≠ j ∧ Is.length < 1000 then (match (fs.zip ws).lookup f with
    | some x => (match m ((τ.set i none).set j (some (.d (.lst (isAns c Is))))) S with
      | .ok w S' => some (mkLst [w, x] S')
      | _ => none)
    | none => none) else none
  | .many2 Cs f i j Is Js m => if (c ∈ Cs ∧ c ∈ cx) ∧ ((Is ++ Js).all fun I => decide (I ∈ cx)) = true ∧ fs.length = ws.length ∧ i ≠ j ∧ (Is ++ Js).length < 1000 ∧ j < τ.length then (match (fs.zip ws).lookup f with
    | some x => (match m ((τ.set i none).set j (some (.d (.lst (isAns c (Is ++ Js)))))) S with
      | .ok w S' => some (mkLst [w, x] S')
      | _ => none)
    | none => none) else none
def clsRun2 (cx : List Str) (b c : Str) (fs : List Str) (ws : List W) (τ : Sl) (S : Sto) : List Cl2 → Option (W × Sto)
  | [] => none
  | q :: r => match exIsL cx b c q.test with
    | some true => clRun2 cx c fs ws τ S q
    | some false => clsRun2 cx b c fs ws τ S r
    | none => none
def trS2 (n : Nat) (cx : List Str) (b : Str) (l : List Cl2) (m : MS) : MS := fun τ S => match m τ S with
  | .ex c fs ws τ' S' => if τ'.length = n then (match clsRun2 cx b c fs ws τ' S' l with
    | some (w, S2) => .rt w S2
    | none => .no) else .no
  | o => o
def xcB (K : PySem.W.Frag) (D : Addr) : Bool :=
  decide (PySem.W.findIn K (.ref D) "__getattribute__" = some (some (.builtin "BaseException.__getattribute__"))) && (decide (PySem.W.findIn K (.ref D) "__getattr__" = some none) &&
  (decide (PySem.W.subIn K (.ref D) (.type "BaseException") = some true) && (PySem.W.hasDictIn K D && (decide (PySem.W.findIn K (.ref D) "__class__" = some (some (.builtin "object.__class__"))) &&
  (decide (PySem.W.specialIn K (.builtin "object.__class__") "__get__" = some (some (.builtin "getset_descriptor.__get__"))) && (decide (PySem.W.takesIn K (.builtin "object.__class__") = some true) &&
  decide (PySem.W.mroIn K D (.type "object") = some true)))))))
theorem xcB_ok {K : PySem.W.Frag} {D : Addr} (h : xcB K D = true) : L2.ExcC K D := by
  obtain ⟨h1, h⟩ := Bool.and_eq_true_iff.mp h
  obtain ⟨h2, h⟩ := Bool.and_eq_true_iff.mp h
  obtain ⟨h3, h⟩ := Bool.and_eq_true_iff.mp h
  obtain ⟨h4, h⟩ := Bool.and_eq_true_iff.mp h
  obtain ⟨h5, h⟩ := Bool.and_eq_true_iff.mp h
  obtain ⟨h6, h⟩ := Bool.and_eq_true_iff.mp h
  obtain ⟨h7, h8⟩ := Bool.and_eq_true_iff.mp h
  exact ⟨of_decide_eq_true h1, of_decide_eq_true h2, of_decide_eq_true h3, h4, of_decide_eq_true h5, of_decide_eq_true h6, of_decide_eq_true h7, of_decide_eq_true h8⟩
def IsF (K : PySem.W.Frag) (cx : List Str) : Prop := ∀ c ∈ cx, L2.ExcC K (ga K c) ∧ ∀ C ∈ cx, PySem.W.kitOne K (.ref (ga K c)) (.ref (ga K C)) = some (c == C)
def isfB (K : PySem.W.Frag) (cx : List Str) : Bool := cx.all fun c => xcB K (ga K c) && cx.all fun C => dB (PySem.W.kitOne K (.ref (ga K c)) (.ref (ga K C))) (some (c == C))
theorem isfB_ok {K : PySem.W.Frag} {cx : List Str} (h : isfB K cx = true) : IsF K cx := fun c hc => by
  obtain ⟨h1, h2⟩ := Bool.and_eq_true_iff.mp (List.all_eq_true.mp h c hc)
  exact ⟨xcB_ok h1, fun C hC => dB_ok (List.all_eq_true.mp h2 C hC)⟩
def XfL (K : PySem.W.Frag) (Cs : List Str) (f : Str) : Prop := ∀ C ∈ Cs, XfC K (ga K C) ∧ PySem.W.findIn K (.ref (ga K C)) f = some none
def xflB (K : PySem.W.Frag) (Cs : List Str) (f : Str) : Bool := Cs.all fun C => xfB K (ga K C) && eqO (PySem.W.findIn K (.ref (ga K C)) f) (some none)
theorem xflB_ok {K : PySem.W.Frag} {Cs : List Str} {f : Str} (h : xflB K Cs f = true) : XfL K Cs f := fun C hC => by
  obtain ⟨h1, h2⟩ := Bool.and_eq_true_iff.mp (List.all_eq_true.mp h C hC)
  exact ⟨xfB_ok h1, eqO_ok h2⟩
def tXfL (K : PySem.W.Frag) (a : Addr) (cls : Value) (d : Option Addr) (Cs : List Str) (f : Str) (te : TE) : TE := fun σ H Q => ∃ C ∈ Cs, tXf a cls d (ga K C) f te σ H Q
theorem pe_xfL {X : Cx} {a : Addr} {oe : Obj} {cls : Value} {d : Option Addr} {pn : List (Addr × Obj)} {e : Expr} {te : TE} {pos : Pos} {n : Str} {Cs : List Str} (T : XfL X.K Cs n)
    (hz : Zc cls d oe) (hf : ∃ vs, oe.data = .fields vs) (he : PE (X.suite a ((a, oe) :: pn)) e te) (hb : attributeBase e n X.env (eval e X.env) = eval e X.env := by rfl) :
    PE (X.suite a ((a, oe) :: pn)) (.Attribute e n pos) (tXfL X.K a cls d Cs n te) := by
  refine ⟨fun pins s σ H Q I h => ?_⟩
  obtain ⟨C, hC, h⟩ := h
  exact (pe_xf (T C hC).1 (T C hC).2 hz hf he hb).run pins s σ H Q I h
def tIsL (K : PySem.W.Frag) (a : Addr) (cls : Value) (d : Option Addr) (te : TE) : List Str → TA
  | [] => tCons (tC (.bl true)) tNil
  | I :: r => tCons (tCB (rIsX K a cls d) (tCons te (tCons (tC (.ref (ga K I))) tNil))) (tIsL K a cls d te r)
def tIs0 (K : PySem.W.Frag) (a : Addr) (cls : Value) (d : Option Addr) (te : TE) : List Str → TA
  | [] => tNil
  | I :: r => tCons (tCB (rIsX K a cls d) (tCons te (tCons (tC (.ref (ga K I))) tNil))) (tIs0 K a cls d te r)
inductive ClOk2 (K : PySem.W.Frag) (G : Gx) (Wx : WX) : List Cl2 → List (List Value × Option Nat × Sut) → Prop
  | nil : ClOk2 K G Wx [] []
  | fld {c f w : Str} {i : Nat} {l : List Cl2} {l' : List (List Value × Option Nat × Sut)} (r : ClOk2 K G Wx l l') :
      ClOk2 K G Wx (.one c (some f) w :: l) (([.ref (ga K c)], some i, fun a cls d => tRet (tLst (tCons (tC (.str w)) (tCons (tXf a cls d (ga K c) f (tVar i)) tNil)))) :: l')
  | non {c w : Str} {l : List Cl2} {l' : List (List Value × Option Nat × Sut)} (r : ClOk2 K G Wx l l') :
      ClOk2 K G Wx (.one c none w :: l) (([.ref (ga K c)], none, fun _ _ _ => tRet (tLst (tCons (tC (.str w)) tNil))) :: l')
  | many {Cs Is : List Str} {f : Str} {i j : Nat} {m : ME} {l : List Cl2} {l' : List (List Value × Option Nat × Sut)} (r : ClOk2 K G Wx l l') :
      ClOk2 K G Wx (.many Cs f i j Is m :: l) ((Cs.map fun C => .ref (ga K C), some i, fun a cls d => tSeq (tAsg (tLst (tIsL K a cls d (tVar i) Is)) (gName j)) (tRet (tLst (tCons (tM (rW G) G Wx m) (tCons (tXfL K a cls d Cs f (tVar i)) tNil))))) :: l')
  | many2 {Cs Is Js : List Str} {f : Str} {i j : Nat} {m : ME} {l : List Cl2} {l' : List (List Value × Option Nat × Sut)} (r : ClOk2 K G Wx l l') :
      ClOk2 K G Wx (.many2 Cs f i j Is Js m :: l) ((Cs.map fun C => .ref (ga K C), some i, fun a cls d => tSeq (tAsg (tLst (tIs0 K a cls d (tVar i) Is)) (gName j)) (tSeq (tAsg (tOp rCat (tVar j) (tLst (tIsL K a cls d (tVar i) Js))) (gName j)) (tRet (tLst (tCons (tM (rW G) G Wx m) (tCons (tXfL K a cls d Cs f (tVar i)) tNil)))))) :: l')
theorem exIsL_ok {K : PySem.W.Frag} {cx : List Str} {b c : Str} (h : ExF K cx b) : ∀ {Cs : List Str} {r : Bool}, exIsL cx b c Cs = some r → PySem.W.exmAny K (.ref (ga K c)) (Cs.map fun C => .ref (ga K C)) = some r
  | [], r, e => e
  | C :: Cs, r, e => by
    unfold exIsL at e
    split at e
    · rename_i x y e1 e2
      cases e
      show (match PySem.W.exmOne K (.ref (ga K c)) (.ref (ga K C)), PySem.W.exmAny K (.ref (ga K c)) (Cs.map fun C => .ref (ga K C)) with
        | some b, some d => some (b || d)
        | _, _ => none) = _
      rw [exIs_ok h e1, exIsL_ok h e2]
    · cases e
theorem isL_run {K : PySem.W.Frag} {cx : List Str} {c : Str} (hi : IsF K cx) (hc : c ∈ cx) {a : Addr} {d : Option Addr} {te : TE} {σ : L2.St} {H : Hp} (ht : ∀ (Q : VK), Q (.ref a) H → te σ H Q) (hd : d = none ∨ ∃ dd fs, d = some dd ∧ H dd = some (.xd fs)) :
    ∀ {Is : List Str} {Q : List V → Hp → Prop}, (Is.all fun I => decide (I ∈ cx)) = true → Q (Is.map (fun I => V.bl (c == I)) ++ [.bl true]) H → tIsL K a (.ref (ga K c)) d te Is σ H Q
  | [], Q, _, q => q
  | I :: Is, Q, hI, q => by
    obtain ⟨h1, h2⟩ := Bool.and_eq_true_iff.mp hI
    refine ht _ ?_
    refine ⟨ga K c, .ref (ga K I), .ref (ga K I), c == I, rfl, (hi c hc).1, rfl, fun u h => h, (hi c hc).2 I (of_decide_eq_true h1), hd, ?_⟩
    exact isL_run hi hc ht hd h2 q
theorem is0_run {K : PySem.W.Frag} {cx : List Str} {c : Str} (hi : IsF K cx) (hc : c ∈ cx) {a : Addr} {d : Option Addr} {te : TE} {σ : L2.St} {H : Hp} (ht : ∀ (Q : VK), Q (.ref a) H → te σ H Q) (hd : d = none ∨ ∃ dd fs, d = some dd ∧ H dd = some (.xd fs)) :
    ∀ {Is : List Str} {Q : List V → Hp → Prop}, (∀ I ∈ Is, I ∈ cx) → Q (Is.map (fun I => V.bl (c == I))) H → tIs0 K a (.ref (ga K c)) d te Is σ H Q
  | [], Q, _, q => q
  | I :: Is, Q, hI, q => by
    refine ht _ ?_
    refine ⟨ga K c, .ref (ga K I), .ref (ga K I), c == I, rfl, (hi c hc).1, rfl, fun u h => h, (hi c hc).2 I (hI I List.mem_cons_self), hd, ?_⟩
    exact is0_run hi hc ht hd (fun J hJ => hI J (List.mem_cons_of_mem _ hJ)) q
theorem ans_rep {G : Gx} {H : Hp} {Y : Addr → Prop} {c : Str} : ∀ {Is : List Str}, Reps G H Y (isAns c Is) (Is.map (fun I => V.bl (c == I)) ++ [.bl true])
  | [] => by
    show Reps G H Y [.bl true] [.bl true]
    unfold Reps Reps
    exact ⟨_, _, rfl, rep_bl _, rfl⟩
  | I :: Is => by
    show Reps G H Y (.bl (c == I) :: isAns c Is) (V.bl (c == I) :: (Is.map (fun I => V.bl (c == I)) ++ [.bl true]))
    unfold Reps
    exact ⟨_, _, rfl, rep_bl _, ans_rep⟩
section
variable {X : Cx} {Wx W1 : WX} {body : List Stmt} {h₀ : ExceptHandler} {hds : List ExceptHandler} {l : List Cl2} {l' : List (List Value × Option Nat × Sut)} {pos : Pos} {mb : MS} {cx : List Str} {b : Str}
theorem SlotsR.dropE {G : Gx} {H : Hp} {Y : Addr → Prop} {α : List Addr} {τ : Sl} {σ : L2.St} (h : SlotsR G H Y α τ σ) (i : Nat) (v : V) : SlotsR G H Y α (τ.set i none) (σ.set i (some v)) := by
  refine ⟨by simp [h.len], fun j w e => ?_⟩
  by_cases hij : i = j
  · subst hij
    rw [List.getElem?_set] at e
    split at e
    · split at e
      · cases e
      · cases e
    · exact absurd rfl ‹_›
  · rw [List.getElem?_set_ne hij] at e
    obtain ⟨v', e1, r⟩ := h.at_ j w e
    exact ⟨v', by rw [List.getElem?_set_ne hij]; exact e1, r⟩
theorem cls_ok2 (hx : ExF X.K cx b) (hi : IsF X.K cx) {D : Ends} {F : Addr → Prop} {α : List Addr} {S : Sto} {H : Hp} {τ : Sl} {σ : L2.St} {c : Str} {fs : List Str} {ws : List W} {d : Option Addr} {w : W} {S2 : Sto} {Wo : WX} (r : Rel X.gx F α S H) (sl : SlotsR X.gx H (XX F α S) α τ σ) (hσ : ∀ i ∈ l'.filterMap (·.2.1), i < σ.length)
    (he : ExcD X.gx H (XX F α S) α d fs ws) (hc : ClOk2 X.K X.gx W1 l l') (e : clsRun2 cx b c fs ws τ S l = some (w, S2)) (k : ∀ α' H' v, Rel X.gx F α' S2 H' → Stp α S H α' S2 H' → RepW X.gx H' (XX F α' S2) α' w v → D.rt v H') : wMixT X.K Wo D l' (.ref (ga X.K c)) d σ H := by
  induction hc with
  | nil => cases e
  | @fld C f wd i l l' rr ih =>
    unfold clsRun2 at e
    split at e
    · rename_i ei
      refine ⟨true, exIsL_ok hx ei, fun _ a na => ?_, fun z => (nomatch z)⟩
      unfold clRun2 at e
      dsimp only at e
      split at e
      rotate_left
      · cases e
      rename_i hl
      rw [Option.map_eq_some_iff] at e
      obtain ⟨w0, e1, ew⟩ := e
      rcases he with ⟨_, ef, ew⟩ | ⟨dd, vs, ed, nd, hd, hlen, hw⟩
      · subst ef; rw [List.zip_nil_left] at e1; cases e1
      · subst ed
        obtain ⟨v, e2, rv⟩ := lookup_rep hw e1
        have hi : i < σ.length := hσ i (by simp)
        refine ⟨.ref a, by rw [List.getElem?_set_self hi], rfl, by rw [hl.1], dd, fs.zip vs, v, rfl, hd, e2, ?_⟩
        refine ⟨two_le, grow fun t H' sm nt ht => ?_⟩
        obtain ⟨α', r3, s3, h3⟩ := mkLst_rep r sm nt ht (RepWs.mk2 (rw_d (rep_str _)) rv)
        rw [ew] at r3 s3 h3
        exact k α' H' _ r3 s3 h3
    · rename_i ei
      exact ⟨false, exIsL_ok hx ei, fun z => (nomatch z), fun _ => ih (fun j hj => hσ j (by simp [hj])) e⟩
    · cases e
  | @non C wd l l' rr ih =>
    unfold clsRun2 at e
    split at e
    · rename_i ei
      refine ⟨true, exIsL_ok hx ei, fun _ a na => ?_, fun z => nomatch z⟩
      have ew : mkLst [.d (.str wd)] S = (w, S2) := Option.some.inj e
      refine ⟨one_le, grow fun t H' sm nt ht => ?_⟩
      obtain ⟨α', r3, s3, h3⟩ := mkLst_rep r sm nt ht (RepWs.mk1 (rw_d (rep_str _)))
      rw [ew] at r3 s3 h3
      exact k α' H' _ r3 s3 h3
    · rename_i ei
      exact ⟨false, exIsL_ok hx ei, fun z => (nomatch z), fun _ => ih (fun j hj => hσ j (by simpa using hj)) e⟩
    · cases e
  | @many Cs Is f i j m l l' rr ih =>
    unfold clsRun2 at e
    split at e
    · rename_i ei
      refine ⟨true, exIsL_ok hx ei, fun _ a na => ?_, fun z => (nomatch z)⟩
      unfold clRun2 at e
      dsimp only at e
      split at e
      rotate_left
      · cases e
      rename_i hl
      obtain ⟨⟨hcs, hcx⟩, hIs, hlen0, hij, hI⟩ := hl
      split at e
      rotate_left
      · cases e
      rename_i w0 e1
      split at e
      rotate_left
      · cases e
      rename_i w1 S1 em
      have ew : mkLst [w1, w0] S1 = (w, S2) := Option.some.inj e
      rcases he with ⟨_, ef, ew⟩ | ⟨dd, vs, ed, nd, hd, hlen, hw⟩
      · subst ef; rw [List.zip_nil_left] at e1; cases e1
      · subst ed
        obtain ⟨v, e2, rv⟩ := lookup_rep hw e1
        have hi' : i < σ.length := hσ i (by simp)
        have slE : SlotsR X.gx H (XX F α S) α (τ.set i none) (σ.set i (some (.ref a))) := sl.dropE i _
        show tIsL X.K a (.ref (ga X.K c)) (some dd) (tVar i) Is (σ.set i (some (.ref a))) H fun xs H1 => xs.length ≤ sizeLine ∧ ∀ p, H1 p = none → tM (rW X.gx) X.gx W1 m ((σ.set i (some (.ref a))).set j (some (.ref p))) (upd H1 p (.lst xs)) fun x H2 =>
          tXfL X.K a (.ref (ga X.K c)) (some dd) Cs f (tVar i) ((σ.set i (some (.ref a))).set j (some (.ref p))) H2 fun y H3 => [x, y].length ≤ sizeLine ∧ ∀ p, H3 p = none → D.rt (.ref p) (upd H3 p (.lst [x, y]))
        refine isL_run hi hcx (fun Q q => ⟨.ref a, by rw [List.getElem?_set_self hi'], q⟩) (.inr ⟨dd, _, rfl, hd⟩) hIs ⟨?_, fun t nt => ?_⟩
        · exact thou (by simp; omega)
        have sm : Same H (upd H t (HO.lst (List.map (fun I => V.bl (c == I)) Is ++ [V.bl true]))) := same_new nt
        have ht := upd_same (H := H) (a := t) (o := HO.lst (List.map (fun I => V.bl (c == I)) Is ++ [V.bl true]))
        generalize upd H t (HO.lst (List.map (fun I => V.bl (c == I)) Is ++ [V.bl true])) = H' at sm ht ⊢
        · have sl2 : SlotsR X.gx H' (XX F α S) α ((τ.set i none).set j (some (.d (.lst (isAns c Is))))) ((σ.set i (some (.ref a))).set j (some (.ref t))) := by
            refine SlotsR.set (slE.stp (Stp.same sm)) (rw_d ?_)
            unfold Rep
            exact ⟨t, _, rfl, r.fresh nt, ht, ans_rep⟩
          refine ⟨F, α, S, _, r.same sm, sl2, ?_⟩
          rw [em]
          intro α3 H3 v3 r3 s3 h3
          refine ⟨c, hcs, .ref a, ?_, rfl, rfl, dd, fs.zip vs, v, rfl, ?_, e2, ?_⟩
          · rw [List.getElem?_set_ne (Ne.symm hij), List.getElem?_set_self hi']
          · exact s3.keep _ _ (sm _ _ hd) fun z => nd (.inr z)
          · refine ⟨two_le, grow fun t4 H4 sm4 nt4 ht4 => ?_⟩
            obtain ⟨α', r5, s5, h5⟩ := mkLst_rep r3 sm4 nt4 ht4 (RepWs.mk2 h3 ((rv.stp (Stp.same sm)).stp s3))
            rw [ew] at r5 s5 h5
            exact k α' H4 _ r5 (((Stp.same sm).trans s3).trans s5) h5
    · rename_i ei
      exact ⟨false, exIsL_ok hx ei, fun z => (nomatch z), fun _ => ih (fun j hj => hσ j (by simp [hj])) e⟩
    · cases e
  | @many2 Cs Is Js f i j m l l' rr ih =>
    unfold clsRun2 at e
    split at e
    · rename_i ei
      refine ⟨true, exIsL_ok hx ei, fun _ a na => ?_, fun z => (nomatch z)⟩
      unfold clRun2 at e
      dsimp only at e
      split at e
      rotate_left
      · cases e
      rename_i hl
      obtain ⟨⟨hcs, hcx⟩, hIs, hlen0, hij, hI, hjl⟩ := hl
      have hAll : ∀ I ∈ Is ++ Js, I ∈ cx := fun I hm => of_decide_eq_true (List.all_eq_true.mp hIs I hm)
      rw [List.length_append] at hI
      split at e
      rotate_left
      · cases e
      rename_i w0 e1
      split at e
      rotate_left
      · cases e
      rename_i w1 S1 em
      have ew : mkLst [w1, w0] S1 = (w, S2) := Option.some.inj e
      rcases he with ⟨_, ef, ew⟩ | ⟨dd, vs, ed, nd, hd, hlen, hw⟩
      · subst ef; rw [List.zip_nil_left] at e1; cases e1
      · subst ed
        obtain ⟨v, e2, rv⟩ := lookup_rep hw e1
        have hi' : i < σ.length := hσ i (by simp)
        have slE : SlotsR X.gx H (XX F α S) α (τ.set i none) (σ.set i (some (.ref a))) := sl.dropE i _
        show tIs0 X.K a (.ref (ga X.K c)) (some dd) (tVar i) Is (σ.set i (some (.ref a))) H fun xs H1 => xs.length ≤ sizeLine ∧ ∀ p, H1 p = none → tOp rCat (tVar j) (tLst (tIsL X.K a (.ref (ga X.K c)) (some dd) (tVar i) Js)) ((σ.set i (some (.ref a))).set j (some (.ref p))) (upd H1 p (.lst xs)) fun u H2 => tM (rW X.gx) X.gx W1 m (((σ.set i (some (.ref a))).set j (some (.ref p))).set j (some u)) H2 fun x H3 =>
          tXfL X.K a (.ref (ga X.K c)) (some dd) Cs f (tVar i) (((σ.set i (some (.ref a))).set j (some (.ref p))).set j (some u)) H3 fun y H4 => [x, y].length ≤ sizeLine ∧ ∀ p, H4 p = none → D.rt (.ref p) (upd H4 p (.lst [x, y]))
        refine is0_run hi hcx (fun Q q => ⟨.ref a, by rw [List.getElem?_set_self hi'], q⟩) (.inr ⟨dd, _, rfl, hd⟩) (fun I h => hAll I (List.mem_append_left _ h)) ⟨?_, fun t0 nt0 => ?_⟩
        · exact thou (by rw [List.length_map]; omega)
        have ndt : dd ≠ t0 := fun z => by subst z; rw [nt0] at hd; cases hd
        have jt : ((σ.set i (some (V.ref a))).set j (some (V.ref t0)))[j]? = some (some (.ref t0)) := by
          rw [List.getElem?_set_self (by rw [List.length_set, ← sl.len]; exact hjl)]
        have sm0 : Same H (upd H t0 (HO.lst (List.map (fun I => V.bl (c == I)) Is))) := same_new nt0
        have ht0 := upd_same (H := H) (a := t0) (o := HO.lst (List.map (fun I => V.bl (c == I)) Is))
        generalize upd H t0 (HO.lst (List.map (fun I => V.bl (c == I)) Is)) = H0 at sm0 ht0 ⊢
        refine ⟨.ref t0, jt, ?_⟩
        refine isL_run hi hcx (fun Q q => ⟨.ref a, by rw [List.getElem?_set_ne (Ne.symm hij), List.getElem?_set_self hi'], q⟩) (.inr ⟨dd, _, rfl, sm0 _ _ hd⟩) (List.all_eq_true.mpr fun I h => decide_eq_true (hAll I (List.mem_append_right _ h))) ⟨?_, fun t1 nt1 => ?_⟩
        · exact thou (by simp; omega)
        have sm1 : Same H0 (upd H0 t1 (HO.lst (List.map (fun I => V.bl (c == I)) Js ++ [V.bl true]))) := same_new nt1
        have ht1 := upd_same (H := H0) (a := t1) (o := HO.lst (List.map (fun I => V.bl (c == I)) Js ++ [V.bl true]))
        generalize upd H0 t1 (HO.lst (List.map (fun I => V.bl (c == I)) Js ++ [V.bl true])) = H1 at sm1 ht1 ⊢
        refine ⟨t0, t1, _, _, rfl, rfl, sm1 _ _ ht0, ht1, thou (by simp; omega), fun t nt => ?_⟩
        have eq : (List.map (fun I => V.bl (c == I)) Is ++ (List.map (fun I => V.bl (c == I)) Js ++ [V.bl true])) = List.map (fun I => V.bl (c == I)) (Is ++ Js) ++ [V.bl true] := by simp
        rw [eq]
        have sm : Same H (upd H1 t (HO.lst (List.map (fun I => V.bl (c == I)) (Is ++ Js) ++ [V.bl true]))) := fun a o h => same_new nt a o (sm1 a o (sm0 a o h))
        have ht := upd_same (H := H1) (a := t) (o := HO.lst (List.map (fun I => V.bl (c == I)) (Is ++ Js) ++ [V.bl true]))
        have nF : ¬ XX F α S t := r.fresh (by
          cases q : H t with
          | none => rfl
          | some o => have := sm1 _ _ (sm0 _ _ q); rw [nt] at this; cases this)
        generalize upd H1 t (HO.lst (List.map (fun I => V.bl (c == I)) (Is ++ Js) ++ [V.bl true])) = H' at sm ht ⊢
        dsimp only
        rw [List.set_set]
        · have sl2 : SlotsR X.gx H' (XX F α S) α ((τ.set i none).set j (some (.d (.lst (isAns c (Is ++ Js)))))) ((σ.set i (some (.ref a))).set j (some (.ref t))) := by
            refine SlotsR.set (slE.stp (Stp.same sm)) (rw_d ?_)
            unfold Rep
            exact ⟨t, _, rfl, nF, ht, ans_rep⟩
          refine ⟨F, α, S, _, r.same sm, sl2, ?_⟩
          rw [em]
          intro α3 H3 v3 r3 s3 h3
          refine ⟨c, hcs, .ref a, ?_, rfl, rfl, dd, fs.zip vs, v, rfl, ?_, e2, ?_⟩
          · rw [List.getElem?_set_ne (Ne.symm hij), List.getElem?_set_self hi']
          · exact s3.keep _ _ (sm _ _ hd) fun z => nd (.inr z)
          · refine ⟨two_le, grow fun t4 H4 sm4 nt4 ht4 => ?_⟩
            obtain ⟨α', r5, s5, h5⟩ := mkLst_rep r3 sm4 nt4 ht4 (RepWs.mk2 h3 ((rv.stp (Stp.same sm)).stp s3))
            rw [ew] at r5 s5 h5
            exact k α' H4 _ r5 (((Stp.same sm).trans s3).trans s5) h5
    · rename_i ei
      exact ⟨false, exIsL_ok hx ei, fun z => (nomatch z), fun _ => ih (fun j hj => hσ j (by simp [hj])) e⟩
    · cases e
theorem ms_try2 (hs : X.stack = X.env :: X.outer) (hf : X.env.frame = some X.env.locals) (tk : Takes X Wx) (hx : ExF X.K cx b) (hi : IsF X.K cx) (hc : ClOk2 X.K X.gx W1 l l') {n : Nat} (hσ : (l'.filterMap (·.2.1)).all (fun i => decide (i < n)) = true)
    (hb : ∀ (W : WX) (pn : List (Addr × Obj)) (xe : Value → Shared → Prop), Takes (X.tr pn xe) W → PassesOwn (model X.prog X.w) X.A X.env xe → ESs (X.tr pn xe) W body mb) (hh : MixOkT X (h₀ :: hds) l') :
    ES X Wx (.Try body (h₀ :: hds) [] [] pos) (trS2 n cx b l mb) := by
  refine PS.imp (ps_try_mixT hs hf tk (tb := fun W => tS (X.tr [] X.xe) W mb) (fun W pn xe t p => hb W pn xe t p) hh) fun D σ H ⟨F, α, S, τ, r, sl, f⟩ => ?_
  refine ⟨F, α, S, τ, r, sl, ?_⟩
  unfold trS2 at f
  cases em : mb τ S with
  | nx τ' S' => rw [em] at f; exact f
  | rt w S' => rw [em] at f; exact f
  | bk τ' S' => rw [em] at f; exact f
  | ct τ' S' => rw [em] at f; exact f
  | no => rw [em] at f; exact f
  | ex c fs ws τ' S' =>
    rw [em] at f
    dsimp only at f
    split at f
    · rename_i hl
      split at f
      · rename_i w S2 ew
        intro α' H' d σ' r' s' sl' he
        refine cls_ok2 hx hi r' sl' (fun i hi => ?_) he hc ew fun α2 H2 v a1 a2 a3 => f α2 H2 v a1 (s'.trans a2) a3
        have := of_decide_eq_true (List.all_eq_true.mp hσ i hi)
        rw [← sl'.len, hl]; exact this
      · exact f.elim
    · exact f.elim
end
end Mi
set_option Elab.async false
set_option linter.all false
set_option maxRecDepth 100000
set_option maxHeartbeats 4000000
namespace Lw
open PySem PySem.Spec PyProof.Rows L2 He Wl Mi
def top (i : Nat) : Stmt := PySem.Challenge.pw_winoften_k53_payments_refused.main.body.getD i (.Pass ⟨0, 0, 0, 0⟩)
abbrev s__wall : Stmt := top 0
abbrev s_InvalidNumber___init__ : Stmt := inClass (top 3) 0
abbrev s_InvalidText___init__ : Stmt := inClass (top 4) 0
abbrev s_InvalidName___init__ : Stmt := inClass (top 5) 0
abbrev s_InvalidHouse___init__ : Stmt := inClass (top 6) 0
abbrev s_InvalidChance___init__ : Stmt := inClass (top 7) 0
abbrev s_InvalidDay___init__ : Stmt := inClass (top 8) 0
abbrev s_InvalidDays___init__ : Stmt := inClass (top 9) 0
abbrev s_InvalidWish___init__ : Stmt := inClass (top 10) 0
abbrev s_InvalidOrder___init__ : Stmt := inClass (top 11) 0
abbrev s_InvalidWorths___init__ : Stmt := inClass (top 12) 0
abbrev s_Duplicate___init__ : Stmt := inClass (top 13) 0
abbrev s_UnknownName___init__ : Stmt := inClass (top 14) 0
abbrev s_UnknownPair___init__ : Stmt := inClass (top 15) 0
abbrev s_NotIndependent___init__ : Stmt := inClass (top 16) 0
abbrev s_ByZero___init__ : Stmt := inClass (top 17) 0
abbrev s_is_integer : Stmt := top 21
abbrev s_is_list : Stmt := top 22
abbrev s_common_divisor : Stmt := top 23
abbrev s_parts : Stmt := top 24
abbrev s_number_in : Stmt := top 25
abbrev s_Ratio___init__ : Stmt := inClass (top 26) 1
abbrev s_Ratio_top : Stmt := inClass (top 26) 2
abbrev s_Ratio_bottom : Stmt := inClass (top 26) 3
abbrev s_Ratio_read : Stmt := inClass (top 26) 4
abbrev s_Ratio___add__ : Stmt := inClass (top 26) 5
abbrev s_Ratio___sub__ : Stmt := inClass (top 26) 6
abbrev s_Ratio___mul__ : Stmt := inClass (top 26) 7
abbrev s_Ratio_over : Stmt := inClass (top 26) 8
abbrev s_Ratio___neg__ : Stmt := inClass (top 26) 9
abbrev s_Ratio___eq__ : Stmt := inClass (top 26) 10
abbrev s_Ratio_below : Stmt := inClass (top 26) 11
abbrev s_Ratio_text : Stmt := inClass (top 26) 12
abbrev s_is_number : Stmt := top 27
abbrev s_is_amount : Stmt := top 28
abbrev s_as_ratio : Stmt := top 29
abbrev s_need_numbers : Stmt := top 30
abbrev s_total : Stmt := top 31
abbrev s_least : Stmt := top 32
abbrev s_is_name : Stmt := top 38
abbrev s_need_chance : Stmt := top 39
abbrev s_need_two : Stmt := top 40
abbrev s_need_few : Stmt := top 41
abbrev s_need_new_name : Stmt := top 42
abbrev s_told_kinds : Stmt := top 43
abbrev s_told_bidders : Stmt := top 44
abbrev s_every_day : Stmt := top 45
abbrev s_pairs_of : Stmt := top 46
abbrev s_product_of : Stmt := top 47
abbrev s_House___init__ : Stmt := inClass (top 48) 0
abbrev s_House_keep : Stmt := inClass (top 48) 1
abbrev s_House_has_products : Stmt := inClass (top 48) 2
abbrev s_House_bidder_lines : Stmt := inClass (top 48) 3
abbrev s_House_day_lines : Stmt := inClass (top 48) 4
abbrev s_House_tied : Stmt := inClass (top 48) 5
abbrev s_House_names : Stmt := inClass (top 48) 6
abbrev s_House_kinds : Stmt := inClass (top 48) 7
abbrev s_House_pairs : Stmt := inClass (top 48) 8
abbrev s_House___len__ : Stmt := inClass (top 48) 9
abbrev s_House_chance : Stmt := inClass (top 48) 10
abbrev s_House_days : Stmt := inClass (top 48) 11
abbrev s_House_day_chance : Stmt := inClass (top 48) 12
abbrev s_House_there : Stmt := inClass (top 48) 13
abbrev s_House_independent : Stmt := inClass (top 48) 14
abbrev s_House___eq__ : Stmt := inClass (top 48) 15
abbrev s_House___str__ : Stmt := inClass (top 48) 16
abbrev s_House_read : Stmt := inClass (top 48) 17
abbrev s_day_line : Stmt := top 49
abbrev s_is_day : Stmt := top 50
abbrev s_need_day : Stmt := top 51
abbrev s_is_pair : Stmt := top 52
abbrev s_need_pair : Stmt := top 53
abbrev s_need_house : Stmt := top 54
abbrev s_told_days : Stmt := top 55
abbrev s_read_kind : Stmt := top 56
abbrev s_read_day : Stmt := top 57
abbrev s_house_of_lines : Stmt := top 58
abbrev s_need_amount : Stmt := top 61
abbrev s_need_wish : Stmt := top 62
abbrev s_numbers_of : Stmt := top 63
abbrev s_Wish___init__ : Stmt := inClass (top 64) 0
abbrev s_Wish_read : Stmt := inClass (top 64) 1
abbrev s_Wish_number : Stmt := inClass (top 64) 2
abbrev s_Wish_numbers : Stmt := inClass (top 64) 3
abbrev s_Wish_want : Stmt := inClass (top 64) 4
abbrev s_Wish_total : Stmt := inClass (top 64) 5
abbrev s_Wish_of_bidder : Stmt := inClass (top 64) 6
abbrev s_Wish_scaled : Stmt := inClass (top 64) 7
abbrev s_Wish_mixed : Stmt := inClass (top 64) 8
abbrev s_Wish_with_number : Stmt := inClass (top 64) 9
abbrev s_Wish_turned : Stmt := inClass (top 64) 10
abbrev s_Wish_within : Stmt := inClass (top 64) 11
abbrev s_Wish___eq__ : Stmt := inClass (top 64) 12
abbrev s_Wish___str__ : Stmt := inClass (top 64) 13
abbrev s_is_order : Stmt := top 66
abbrev s_need_order : Stmt := top 67
abbrev s_first_there : Stmt := top 68
abbrev s_order_wish : Stmt := top 69
abbrev s_told_values : Stmt := top 71
abbrev s_told_payments : Stmt := top 72
abbrev s_rising : Stmt := top 73
abbrev s_fall_of : Stmt := top 74
abbrev s_fall : Stmt := top 75
abbrev s_gained : Stmt := top 76
abbrev s_lies_of : Stmt := top 77
abbrev s_lies : Stmt := top 78
abbrev s_are_fair : Stmt := top 79
abbrev s_paid_by : Stmt := top 80
abbrev s_greatest_payments : Stmt := top 81
abbrev s_income : Stmt := top 82
abbrev s_plain_gains : Stmt := top 83
abbrev s_Pool___init__ : Stmt := inClass (top 84) 0
abbrev s_Pool_mean : Stmt := inClass (top 84) 1
abbrev s_Pool_joined : Stmt := inClass (top 84) 2
abbrev s_evened_of : Stmt := top 85
abbrev s_evened : Stmt := top 86
abbrev s_best_income : Stmt := top 87
abbrev s__law_cell : Stmt := top 89
abbrev s__law_box : Stmt := top 90
abbrev s__law_take : Stmt := top 91
abbrev s__law_frac : Stmt := top 92
abbrev s__law_plus : Stmt := top 93
abbrev s__law_times : Stmt := top 94
abbrev s__law_less : Stmt := top 95
abbrev s__law_sum : Stmt := top 96
abbrev s__law_given : Stmt := top 97
abbrev s__law_told : Stmt := top 98
abbrev s__law_all_days : Stmt := top 99
abbrev s__law_shuffled : Stmt := top 100
abbrev s__law_free_table : Stmt := top 101
abbrev s__law_tied_table : Stmt := top 102
abbrev s__law_model : Stmt := top 103
abbrev s__law_pairs : Stmt := top 104
abbrev s__law_there : Stmt := top 105
abbrev s__law_open : Stmt := top 106
abbrev s__law_chance : Stmt := top 107
abbrev s__law_built : Stmt := top 108
abbrev s__law_asked : Stmt := top 109
abbrev s__law_caught : Stmt := top 110
abbrev s__law_pools : Stmt := top 111
abbrev s__law_values_right : Stmt := top 112
abbrev s__law_paid_right : Stmt := top 113
abbrev s_law : Stmt := top 114
theorem sc_InvalidNumber___init__ : FnScope ["self", "value"] ["self", "value"] (defScope s_InvalidNumber___init__) := ⟨rfl, rfl, rfl, by decide +kernel, rfl, by decide +kernel, by decide +kernel⟩
theorem sc_InvalidName___init__ : FnScope ["self", "value"] ["self", "value"] (defScope s_InvalidName___init__) := ⟨rfl, rfl, rfl, by decide +kernel, rfl, by decide +kernel, by decide +kernel⟩
theorem sc_InvalidHouse___init__ : FnScope ["self", "value"] ["self", "value"] (defScope s_InvalidHouse___init__) := ⟨rfl, rfl, rfl, by decide +kernel, rfl, by decide +kernel, by decide +kernel⟩
theorem sc_InvalidChance___init__ : FnScope ["self", "value"] ["self", "value"] (defScope s_InvalidChance___init__) := ⟨rfl, rfl, rfl, by decide +kernel, rfl, by decide +kernel, by decide +kernel⟩
theorem sc_InvalidDay___init__ : FnScope ["self", "value"] ["self", "value"] (defScope s_InvalidDay___init__) := ⟨rfl, rfl, rfl, by decide +kernel, rfl, by decide +kernel, by decide +kernel⟩
theorem sc_InvalidDays___init__ : FnScope ["self", "value"] ["self", "value"] (defScope s_InvalidDays___init__) := ⟨rfl, rfl, rfl, by decide +kernel, rfl, by decide +kernel, by decide +kernel⟩
theorem sc_InvalidWish___init__ : FnScope ["self", "value"] ["self", "value"] (defScope s_InvalidWish___init__) := ⟨rfl, rfl, rfl, by decide +kernel, rfl, by decide +kernel, by decide +kernel⟩
theorem sc_InvalidWorths___init__ : FnScope ["self", "value"] ["self", "value"] (defScope s_InvalidWorths___init__) := ⟨rfl, rfl, rfl, by decide +kernel, rfl, by decide +kernel, by decide +kernel⟩
theorem sc_Duplicate___init__ : FnScope ["self", "value"] ["self", "value"] (defScope s_Duplicate___init__) := ⟨rfl, rfl, rfl, by decide +kernel, rfl, by decide +kernel, by decide +kernel⟩
theorem sc_UnknownPair___init__ : FnScope ["self", "pair"] ["self", "pair"] (defScope s_UnknownPair___init__) := ⟨rfl, rfl, rfl, by decide +kernel, rfl, by decide +kernel, by decide +kernel⟩
theorem sc_NotIndependent___init__ : FnScope ["self"] ["self"] (defScope s_NotIndependent___init__) := ⟨rfl, rfl, rfl, by decide +kernel, rfl, by decide +kernel, by decide +kernel⟩
theorem sc_ByZero___init__ : FnScope ["self"] ["self"] (defScope s_ByZero___init__) := ⟨rfl, rfl, rfl, by decide +kernel, rfl, by decide +kernel, by decide +kernel⟩
theorem sc_is_integer : FnScope ["value"] ["value"] (defScope s_is_integer) := ⟨rfl, rfl, rfl, by decide +kernel, rfl, by decide +kernel, by decide +kernel⟩
theorem sc_is_list : FnScope ["value"] ["value"] (defScope s_is_list) := ⟨rfl, rfl, rfl, by decide +kernel, rfl, by decide +kernel, by decide +kernel⟩
theorem sc_common_divisor : FnScope ["one", "other"] ["one", "other"] (defScope s_common_divisor) := ⟨rfl, rfl, rfl, by decide +kernel, rfl, by decide +kernel, by decide +kernel⟩
theorem sc_parts : FnScope ["number"] ["number"] (defScope s_parts) := ⟨rfl, rfl, rfl, by decide +kernel, rfl, by decide +kernel, by decide +kernel⟩
theorem sc_Ratio___init__ : FnScope ["self", "top", "bottom", "number", "piece"] ["self", "top", "bottom"] (defScope s_Ratio___init__) := ⟨rfl, rfl, rfl, by decide +kernel, rfl, by decide +kernel, by decide +kernel⟩
theorem sc_Ratio_top : FnScope ["self"] ["self"] (defScope s_Ratio_top) := ⟨rfl, rfl, rfl, by decide +kernel, rfl, by decide +kernel, by decide +kernel⟩
theorem sc_Ratio_bottom : FnScope ["self"] ["self"] (defScope s_Ratio_bottom) := ⟨rfl, rfl, rfl, by decide +kernel, rfl, by decide +kernel, by decide +kernel⟩
theorem sc_Ratio___add__ : FnScope ["self", "other", "top", "bottom"] ["self", "other"] (defScope s_Ratio___add__) := ⟨rfl, rfl, rfl, by decide +kernel, rfl, by decide +kernel, by decide +kernel⟩
theorem sc_Ratio___sub__ : FnScope ["self", "other", "top", "bottom"] ["self", "other"] (defScope s_Ratio___sub__) := ⟨rfl, rfl, rfl, by decide +kernel, rfl, by decide +kernel, by decide +kernel⟩
theorem sc_Ratio___mul__ : FnScope ["self", "other", "top", "bottom"] ["self", "other"] (defScope s_Ratio___mul__) := ⟨rfl, rfl, rfl, by decide +kernel, rfl, by decide +kernel, by decide +kernel⟩
theorem sc_Ratio___eq__ : FnScope ["self", "other"] ["self", "other"] (defScope s_Ratio___eq__) := ⟨rfl, rfl, rfl, by decide +kernel, rfl, by decide +kernel, by decide +kernel⟩
theorem sc_Ratio_below : FnScope ["self", "number", "top", "bottom"] ["self", "number"] (defScope s_Ratio_below) := ⟨rfl, rfl, rfl, by decide +kernel, rfl, by decide +kernel, by decide +kernel⟩
theorem sc_Ratio_text : FnScope ["self"] ["self"] (defScope s_Ratio_text) := ⟨rfl, rfl, rfl, by decide +kernel, rfl, by decide +kernel, by decide +kernel⟩
theorem sc_is_number : FnScope ["value"] ["value"] (defScope s_is_number) := ⟨rfl, rfl, rfl, by decide +kernel, rfl, by decide +kernel, by decide +kernel⟩
theorem sc_is_amount : FnScope ["value"] ["value"] (defScope s_is_amount) := ⟨rfl, rfl, rfl, by decide +kernel, rfl, by decide +kernel, by decide +kernel⟩
theorem sc_as_ratio : FnScope ["number", "top", "bottom"] ["number"] (defScope s_as_ratio) := ⟨rfl, rfl, rfl, by decide +kernel, rfl, by decide +kernel, by decide +kernel⟩
theorem sc_need_numbers : FnScope ["numbers", "fewest", "item"] ["numbers", "fewest"] (defScope s_need_numbers) := ⟨rfl, rfl, rfl, by decide +kernel, rfl, by decide +kernel, by decide +kernel⟩
theorem sc_total : FnScope ["numbers", "found", "number"] ["numbers"] (defScope s_total) := ⟨rfl, rfl, rfl, by decide +kernel, rfl, by decide +kernel, by decide +kernel⟩
theorem sc_is_name : FnScope ["value", "sign"] ["value"] (defScope s_is_name) := ⟨rfl, rfl, rfl, by decide +kernel, rfl, by decide +kernel, by decide +kernel⟩
theorem sc_need_chance : FnScope ["value"] ["value"] (defScope s_need_chance) := ⟨rfl, rfl, rfl, by decide +kernel, rfl, by decide +kernel, by decide +kernel⟩
theorem sc_need_two : FnScope ["item"] ["item"] (defScope s_need_two) := ⟨rfl, rfl, rfl, by decide +kernel, rfl, by decide +kernel, by decide +kernel⟩
theorem sc_need_few : FnScope ["items", "most"] ["items", "most"] (defScope s_need_few) := ⟨rfl, rfl, rfl, by decide +kernel, rfl, by decide +kernel, by decide +kernel⟩
theorem sc_need_new_name : FnScope ["name", "known"] ["name", "known"] (defScope s_need_new_name) := ⟨rfl, rfl, rfl, by decide +kernel, rfl, by decide +kernel, by decide +kernel⟩
theorem sc_told_kinds : FnScope ["kinds", "plain", "names", "chances", "item"] ["kinds", "plain"] (defScope s_told_kinds) := ⟨rfl, rfl, rfl, by decide +kernel, rfl, by decide +kernel, by decide +kernel⟩
theorem sc_told_bidders : FnScope ["bidders", "plain", "names", "kinds", "chances", "item", "told"] ["bidders", "plain"] (defScope s_told_bidders) := ⟨rfl, rfl, rfl, by decide +kernel, rfl, by decide +kernel, by decide +kernel⟩
theorem sc_every_day : FnScope ["kinds", "found", "row", "day", "kind"] ["kinds"] (defScope s_every_day) := ⟨rfl, rfl, rfl, by decide +kernel, rfl, by decide +kernel, by decide +kernel⟩
theorem sc_pairs_of : FnScope ["names", "day", "name", "kind"] ["names", "day"] (defScope s_pairs_of) := ⟨rfl, rfl, rfl, by decide +kernel, rfl, by decide +kernel, by decide +kernel⟩
theorem sc_product_of : FnScope ["day", "kinds", "chances", "found", "kind", "row", "numbers"] ["day", "kinds", "chances"] (defScope s_product_of) := ⟨rfl, rfl, rfl, by decide +kernel, rfl, by decide +kernel, by decide +kernel⟩
theorem sc_House___init__ : FnScope ["self", "bidders", "names", "kinds", "chances", "day"] ["self", "bidders"] (defScope s_House___init__) := ⟨rfl, rfl, rfl, by decide +kernel, rfl, by decide +kernel, by decide +kernel⟩
theorem sc_House_keep : FnScope ["self", "table", "day", "chance", "pair"] ["self", "table"] (defScope s_House_keep) := ⟨rfl, rfl, rfl, by decide +kernel, rfl, by decide +kernel, by decide +kernel⟩
theorem sc_House_has_products : FnScope ["self", "chances", "name", "row", "kind", "day", "chance"] ["self"] (defScope s_House_has_products) := ⟨rfl, rfl, rfl, by decide +kernel, rfl, by decide +kernel, by decide +kernel⟩
theorem sc_House_bidder_lines : FnScope ["self", "lines", "name", "row", "words", "kind"] ["self"] (defScope s_House_bidder_lines) := ⟨rfl, rfl, rfl, by decide +kernel, rfl, by decide +kernel, by decide +kernel⟩
theorem sc_House_day_lines : FnScope ["self", "day", "chance"] ["self"] (defScope s_House_day_lines) := ⟨rfl, rfl, rfl, by decide +kernel, rfl, by decide +kernel, by decide +kernel⟩
theorem sc_House_tied : FnScope ["cls", "bidders", "days", "names", "kinds", "chances", "found", "name", "row", "kind", "pair"] ["cls", "bidders", "days"] (defScope s_House_tied) := ⟨rfl, rfl, rfl, by decide +kernel, rfl, by decide +kernel, by decide +kernel⟩
theorem sc_House_pairs : FnScope ["self", "name", "row", "kind"] ["self"] (defScope s_House_pairs) := ⟨rfl, rfl, rfl, by decide +kernel, rfl, by decide +kernel, by decide +kernel⟩
theorem sc_House_chance : FnScope ["self", "pair"] ["self", "pair"] (defScope s_House_chance) := ⟨rfl, rfl, rfl, by decide +kernel, rfl, by decide +kernel, by decide +kernel⟩
theorem sc_House_independent : FnScope ["self"] ["self"] (defScope s_House_independent) := ⟨rfl, rfl, rfl, by decide +kernel, rfl, by decide +kernel, by decide +kernel⟩
theorem sc_House___eq__ : FnScope ["self", "other", "day"] ["self", "other"] (defScope s_House___eq__) := ⟨rfl, rfl, rfl, by decide +kernel, rfl, by decide +kernel, by decide +kernel⟩
theorem sc_day_line : FnScope ["day", "chance", "kind"] ["day", "chance"] (defScope s_day_line) := ⟨rfl, rfl, rfl, by decide +kernel, rfl, by decide +kernel, by decide +kernel⟩
theorem sc_is_day : FnScope ["house", "value", "kind", "row"] ["house", "value"] (defScope s_is_day) := ⟨rfl, rfl, rfl, by decide +kernel, rfl, by decide +kernel, by decide +kernel⟩
theorem sc_need_day : FnScope ["house", "value"] ["house", "value"] (defScope s_need_day) := ⟨rfl, rfl, rfl, by decide +kernel, rfl, by decide +kernel, by decide +kernel⟩
theorem sc_is_pair : FnScope ["house", "value", "item"] ["house", "value"] (defScope s_is_pair) := ⟨rfl, rfl, rfl, by decide +kernel, rfl, by decide +kernel, by decide +kernel⟩
theorem sc_need_pair : FnScope ["house", "value"] ["house", "value"] (defScope s_need_pair) := ⟨rfl, rfl, rfl, by decide +kernel, rfl, by decide +kernel, by decide +kernel⟩
theorem sc_need_house : FnScope ["value"] ["value"] (defScope s_need_house) := ⟨rfl, rfl, rfl, by decide +kernel, rfl, by decide +kernel, by decide +kernel⟩
theorem sc_told_days : FnScope ["house", "days", "told", "item", "day"] ["house", "days"] (defScope s_told_days) := ⟨rfl, rfl, rfl, by decide +kernel, rfl, by decide +kernel, by decide +kernel⟩
theorem sc_need_amount : FnScope ["value"] ["value"] (defScope s_need_amount) := ⟨rfl, rfl, rfl, by decide +kernel, rfl, by decide +kernel, by decide +kernel⟩
theorem sc_need_wish : FnScope ["value"] ["value"] (defScope s_need_wish) := ⟨rfl, rfl, rfl, by decide +kernel, rfl, by decide +kernel, by decide +kernel⟩
theorem sc_Wish___init__ : FnScope ["self", "house", "numbers", "key", "number", "pair"] ["self", "house", "numbers"] (defScope s_Wish___init__) := ⟨rfl, rfl, rfl, by decide +kernel, rfl, by decide +kernel, by decide +kernel⟩
theorem sc_Wish___eq__ : FnScope ["self", "other", "pair", "number"] ["self", "other"] (defScope s_Wish___eq__) := ⟨rfl, rfl, rfl, by decide +kernel, rfl, by decide +kernel, by decide +kernel⟩
theorem sc_told_values : FnScope ["house", "values", "key", "value", "found", "pair", "other"] ["house", "values"] (defScope s_told_values) := ⟨rfl, rfl, rfl, by decide +kernel, rfl, by decide +kernel, by decide +kernel⟩
theorem sc_told_payments : FnScope ["house", "told", "key", "value", "pair"] ["house", "told"] (defScope s_told_payments) := ⟨rfl, rfl, rfl, by decide +kernel, rfl, by decide +kernel, by decide +kernel⟩
theorem sc_fall_of : FnScope ["wish", "known", "name", "pairs", "low", "high"] ["wish", "known"] (defScope s_fall_of) := ⟨rfl, rfl, rfl, by decide +kernel, rfl, by decide +kernel, by decide +kernel⟩
theorem sc_fall : FnScope ["wish", "values"] ["wish", "values"] (defScope s_fall) := ⟨rfl, rfl, rfl, by decide +kernel, rfl, by decide +kernel, by decide +kernel⟩
theorem sc_lies_of : FnScope ["wish", "known", "paid", "found", "pair", "own", "kind"] ["wish", "known", "paid"] (defScope s_lies_of) := ⟨rfl, rfl, rfl, by decide +kernel, rfl, by decide +kernel, by decide +kernel⟩
theorem sc_lies : FnScope ["wish", "values", "payments", "known"] ["wish", "values", "payments"] (defScope s_lies) := ⟨rfl, rfl, rfl, by decide +kernel, rfl, by decide +kernel, by decide +kernel⟩
theorem sc_are_fair : FnScope ["wish", "values", "payments", "known", "paid", "pair"] ["wish", "values", "payments"] (defScope s_are_fair) := ⟨rfl, rfl, rfl, by decide +kernel, rfl, by decide +kernel, by decide +kernel⟩
theorem sc_greatest_payments : FnScope ["wish", "values", "known"] ["wish", "values"] (defScope s_greatest_payments) := ⟨rfl, rfl, rfl, by decide +kernel, rfl, by decide +kernel, by decide +kernel⟩
theorem sc_income : FnScope ["house", "payments", "pair", "paid"] ["house", "payments"] (defScope s_income) := ⟨rfl, rfl, rfl, by decide +kernel, rfl, by decide +kernel, by decide +kernel⟩
theorem sc_evened_of : FnScope ["house", "known", "found", "name", "pairs", "pools", "pair", "gain", "pool"] ["house", "known"] (defScope s_evened_of) := ⟨rfl, rfl, rfl, by decide +kernel, rfl, by decide +kernel, by decide +kernel⟩
theorem sc_evened : FnScope ["house", "values"] ["house", "values"] (defScope s_evened) := ⟨rfl, rfl, rfl, by decide +kernel, rfl, by decide +kernel, by decide +kernel⟩
theorem sc_best_income : FnScope ["house", "values", "known", "gains", "left", "pair", "order", "wish"] ["house", "values"] (defScope s_best_income) := ⟨rfl, rfl, rfl, by decide +kernel, rfl, by decide +kernel, by decide +kernel⟩
theorem sc__law_cell : FnScope ["_law_script", "_law_k"] ["_law_script", "_law_k"] (defScope s__law_cell) := ⟨rfl, rfl, rfl, by decide +kernel, rfl, by decide +kernel, by decide +kernel⟩
theorem sc__law_box : FnScope ["_law_cell_here"] ["_law_cell_here"] (defScope s__law_box) := ⟨rfl, rfl, rfl, by decide +kernel, rfl, by decide +kernel, by decide +kernel⟩
theorem sc__law_take : FnScope ["_law_box_here", "_law_many", "_law_digit", "_law_blend"] ["_law_box_here", "_law_many"] (defScope s__law_take) := ⟨rfl, rfl, rfl, by decide +kernel, rfl, by decide +kernel, by decide +kernel⟩
theorem sc__law_asked : FnScope ["_law_way", "_law_first", "_law_values", "_law_paid"] ["_law_way", "_law_first", "_law_values", "_law_paid"] (defScope s__law_asked) := ⟨rfl, rfl, rfl, by decide +kernel, rfl, by decide +kernel, by decide +kernel⟩
theorem sc__law_caught : FnScope ["_law_way", "_law_first", "_law_values", "_law_paid", "e", "_law_kinds"] ["_law_way", "_law_first", "_law_values", "_law_paid"] (defScope s__law_caught) := ⟨rfl, rfl, rfl, by decide +kernel, rfl, by decide +kernel, by decide +kernel⟩
theorem sc__law_pools : FnScope ["_law_one", "_law_days"] [] (defScope s__law_pools) := ⟨rfl, rfl, rfl, by decide +kernel, rfl, by decide +kernel, by decide +kernel⟩
theorem sc__law_values_right : FnScope ["_law_box_here", "_law_house", "_law_wish", "_law_tied", "_law_far", "_law_bad", "_law_odd", "_law_same", "_law_cases", "_law_values", "_law_due", "_law_way", "_law_other"] ["_law_box_here", "_law_house", "_law_wish", "_law_tied"] (defScope s__law_values_right) := ⟨rfl, rfl, rfl, by decide +kernel, rfl, by decide +kernel, by decide +kernel⟩
theorem sc__law_paid_right : FnScope ["_law_box_here", "_law_house", "_law_wish", "_law_far", "_law_bad", "_law_odd", "_law_values", "_law_cases", "_law_paid", "_law_due", "_law_way", "_law_thing", "_law_told_here", "_law_wrong"] ["_law_box_here", "_law_house", "_law_wish"] (defScope s__law_paid_right) := ⟨rfl, rfl, rfl, by decide +kernel, rfl, by decide +kernel, by decide +kernel⟩
theorem sc_law : FnScope ["_law_script", "_law_k", "_law_box_here", "_law_house", "_law_tied", "_law_wish", "_law_turn"] ["_law_script"] (defScope s_law) := ⟨rfl, rfl, rfl, by decide +kernel, rfl, by decide +kernel, by decide +kernel⟩
def d__wall : DefY := ⟨.glo "_wall", "_wall", "_wall", defArgs s__wall, defBody s__wall, defScope s__wall, []⟩
def d_InvalidNumber___init__ : DefY := ⟨.met "InvalidNumber" "__init__", "__init__", "InvalidNumber.__init__", defArgs s_InvalidNumber___init__, defBody s_InvalidNumber___init__, defScope s_InvalidNumber___init__, []⟩
def d_InvalidText___init__ : DefY := ⟨.met "InvalidText" "__init__", "__init__", "InvalidText.__init__", defArgs s_InvalidText___init__, defBody s_InvalidText___init__, defScope s_InvalidText___init__, []⟩
def d_InvalidName___init__ : DefY := ⟨.met "InvalidName" "__init__", "__init__", "InvalidName.__init__", defArgs s_InvalidName___init__, defBody s_InvalidName___init__, defScope s_InvalidName___init__, []⟩
def d_InvalidHouse___init__ : DefY := ⟨.met "InvalidHouse" "__init__", "__init__", "InvalidHouse.__init__", defArgs s_InvalidHouse___init__, defBody s_InvalidHouse___init__, defScope s_InvalidHouse___init__, []⟩
def d_InvalidChance___init__ : DefY := ⟨.met "InvalidChance" "__init__", "__init__", "InvalidChance.__init__", defArgs s_InvalidChance___init__, defBody s_InvalidChance___init__, defScope s_InvalidChance___init__, []⟩
def d_InvalidDay___init__ : DefY := ⟨.met "InvalidDay" "__init__", "__init__", "InvalidDay.__init__", defArgs s_InvalidDay___init__, defBody s_InvalidDay___init__, defScope s_InvalidDay___init__, []⟩
def d_InvalidDays___init__ : DefY := ⟨.met "InvalidDays" "__init__", "__init__", "InvalidDays.__init__", defArgs s_InvalidDays___init__, defBody s_InvalidDays___init__, defScope s_InvalidDays___init__, []⟩
def d_InvalidWish___init__ : DefY := ⟨.met "InvalidWish" "__init__", "__init__", "InvalidWish.__init__", defArgs s_InvalidWish___init__, defBody s_InvalidWish___init__, defScope s_InvalidWish___init__, []⟩
def d_InvalidOrder___init__ : DefY := ⟨.met "InvalidOrder" "__init__", "__init__", "InvalidOrder.__init__", defArgs s_InvalidOrder___init__, defBody s_InvalidOrder___init__, defScope s_InvalidOrder___init__, []⟩
def d_InvalidWorths___init__ : DefY := ⟨.met "InvalidWorths" "__init__", "__init__", "InvalidWorths.__init__", defArgs s_InvalidWorths___init__, defBody s_InvalidWorths___init__, defScope s_InvalidWorths___init__, []⟩
def d_Duplicate___init__ : DefY := ⟨.met "Duplicate" "__init__", "__init__", "Duplicate.__init__", defArgs s_Duplicate___init__, defBody s_Duplicate___init__, defScope s_Duplicate___init__, []⟩
def d_UnknownName___init__ : DefY := ⟨.met "UnknownName" "__init__", "__init__", "UnknownName.__init__", defArgs s_UnknownName___init__, defBody s_UnknownName___init__, defScope s_UnknownName___init__, []⟩
def d_UnknownPair___init__ : DefY := ⟨.met "UnknownPair" "__init__", "__init__", "UnknownPair.__init__", defArgs s_UnknownPair___init__, defBody s_UnknownPair___init__, defScope s_UnknownPair___init__, []⟩
def d_NotIndependent___init__ : DefY := ⟨.met "NotIndependent" "__init__", "__init__", "NotIndependent.__init__", defArgs s_NotIndependent___init__, defBody s_NotIndependent___init__, defScope s_NotIndependent___init__, []⟩
def d_ByZero___init__ : DefY := ⟨.met "ByZero" "__init__", "__init__", "ByZero.__init__", defArgs s_ByZero___init__, defBody s_ByZero___init__, defScope s_ByZero___init__, []⟩
def d_is_integer : DefY := ⟨.glo "is_integer", "is_integer", "is_integer", defArgs s_is_integer, defBody s_is_integer, defScope s_is_integer, []⟩
def d_is_list : DefY := ⟨.glo "is_list", "is_list", "is_list", defArgs s_is_list, defBody s_is_list, defScope s_is_list, []⟩
def d_common_divisor : DefY := ⟨.glo "common_divisor", "common_divisor", "common_divisor", defArgs s_common_divisor, defBody s_common_divisor, defScope s_common_divisor, []⟩
def d_parts : DefY := ⟨.glo "parts", "parts", "parts", defArgs s_parts, defBody s_parts, defScope s_parts, []⟩
def d_number_in : DefY := ⟨.glo "number_in", "number_in", "number_in", defArgs s_number_in, defBody s_number_in, defScope s_number_in, []⟩
def d_Ratio___init__ : DefY := ⟨.met "Ratio" "__init__", "__init__", "Ratio.__init__", defArgs s_Ratio___init__, defBody s_Ratio___init__, defScope s_Ratio___init__, [.int 1]⟩
def d_Ratio_top : DefY := ⟨.prp "Ratio" "top", "top", "Ratio.top", defArgs s_Ratio_top, defBody s_Ratio_top, defScope s_Ratio_top, []⟩
def d_Ratio_bottom : DefY := ⟨.prp "Ratio" "bottom", "bottom", "Ratio.bottom", defArgs s_Ratio_bottom, defBody s_Ratio_bottom, defScope s_Ratio_bottom, []⟩
def d_Ratio_read : DefY := ⟨.cme "Ratio" "read", "read", "Ratio.read", defArgs s_Ratio_read, defBody s_Ratio_read, defScope s_Ratio_read, []⟩
def d_Ratio___add__ : DefY := ⟨.met "Ratio" "__add__", "__add__", "Ratio.__add__", defArgs s_Ratio___add__, defBody s_Ratio___add__, defScope s_Ratio___add__, []⟩
def d_Ratio___sub__ : DefY := ⟨.met "Ratio" "__sub__", "__sub__", "Ratio.__sub__", defArgs s_Ratio___sub__, defBody s_Ratio___sub__, defScope s_Ratio___sub__, []⟩
def d_Ratio___mul__ : DefY := ⟨.met "Ratio" "__mul__", "__mul__", "Ratio.__mul__", defArgs s_Ratio___mul__, defBody s_Ratio___mul__, defScope s_Ratio___mul__, []⟩
def d_Ratio_over : DefY := ⟨.met "Ratio" "over", "over", "Ratio.over", defArgs s_Ratio_over, defBody s_Ratio_over, defScope s_Ratio_over, []⟩
def d_Ratio___neg__ : DefY := ⟨.met "Ratio" "__neg__", "__neg__", "Ratio.__neg__", defArgs s_Ratio___neg__, defBody s_Ratio___neg__, defScope s_Ratio___neg__, []⟩
def d_Ratio___eq__ : DefY := ⟨.met "Ratio" "__eq__", "__eq__", "Ratio.__eq__", defArgs s_Ratio___eq__, defBody s_Ratio___eq__, defScope s_Ratio___eq__, []⟩
def d_Ratio_below : DefY := ⟨.met "Ratio" "below", "below", "Ratio.below", defArgs s_Ratio_below, defBody s_Ratio_below, defScope s_Ratio_below, []⟩
def d_Ratio_text : DefY := ⟨.met "Ratio" "text", "text", "Ratio.text", defArgs s_Ratio_text, defBody s_Ratio_text, defScope s_Ratio_text, []⟩
def d_is_number : DefY := ⟨.glo "is_number", "is_number", "is_number", defArgs s_is_number, defBody s_is_number, defScope s_is_number, []⟩
def d_is_amount : DefY := ⟨.glo "is_amount", "is_amount", "is_amount", defArgs s_is_amount, defBody s_is_amount, defScope s_is_amount, []⟩
def d_as_ratio : DefY := ⟨.glo "as_ratio", "as_ratio", "as_ratio", defArgs s_as_ratio, defBody s_as_ratio, defScope s_as_ratio, []⟩
def d_need_numbers : DefY := ⟨.glo "need_numbers", "need_numbers", "need_numbers", defArgs s_need_numbers, defBody s_need_numbers, defScope s_need_numbers, []⟩
def d_total : DefY := ⟨.glo "total", "total", "total", defArgs s_total, defBody s_total, defScope s_total, []⟩
def d_least : DefY := ⟨.glo "least", "least", "least", defArgs s_least, defBody s_least, defScope s_least, []⟩
def d_is_name : DefY := ⟨.glo "is_name", "is_name", "is_name", defArgs s_is_name, defBody s_is_name, defScope s_is_name, []⟩
def d_need_chance : DefY := ⟨.glo "need_chance", "need_chance", "need_chance", defArgs s_need_chance, defBody s_need_chance, defScope s_need_chance, []⟩
def d_need_two : DefY := ⟨.glo "need_two", "need_two", "need_two", defArgs s_need_two, defBody s_need_two, defScope s_need_two, []⟩
def d_need_few : DefY := ⟨.glo "need_few", "need_few", "need_few", defArgs s_need_few, defBody s_need_few, defScope s_need_few, []⟩
def d_need_new_name : DefY := ⟨.glo "need_new_name", "need_new_name", "need_new_name", defArgs s_need_new_name, defBody s_need_new_name, defScope s_need_new_name, []⟩
def d_told_kinds : DefY := ⟨.glo "told_kinds", "told_kinds", "told_kinds", defArgs s_told_kinds, defBody s_told_kinds, defScope s_told_kinds, []⟩
def d_told_bidders : DefY := ⟨.glo "told_bidders", "told_bidders", "told_bidders", defArgs s_told_bidders, defBody s_told_bidders, defScope s_told_bidders, []⟩
def d_every_day : DefY := ⟨.glo "every_day", "every_day", "every_day", defArgs s_every_day, defBody s_every_day, defScope s_every_day, []⟩
def d_pairs_of : DefY := ⟨.glo "pairs_of", "pairs_of", "pairs_of", defArgs s_pairs_of, defBody s_pairs_of, defScope s_pairs_of, []⟩
def d_product_of : DefY := ⟨.glo "product_of", "product_of", "product_of", defArgs s_product_of, defBody s_product_of, defScope s_product_of, []⟩
def d_House___init__ : DefY := ⟨.met "House" "__init__", "__init__", "House.__init__", defArgs s_House___init__, defBody s_House___init__, defScope s_House___init__, []⟩
def d_House_keep : DefY := ⟨.met "House" "keep", "keep", "House.keep", defArgs s_House_keep, defBody s_House_keep, defScope s_House_keep, []⟩
def d_House_has_products : DefY := ⟨.met "House" "has_products", "has_products", "House.has_products", defArgs s_House_has_products, defBody s_House_has_products, defScope s_House_has_products, []⟩
def d_House_bidder_lines : DefY := ⟨.met "House" "bidder_lines", "bidder_lines", "House.bidder_lines", defArgs s_House_bidder_lines, defBody s_House_bidder_lines, defScope s_House_bidder_lines, []⟩
def d_House_day_lines : DefY := ⟨.met "House" "day_lines", "day_lines", "House.day_lines", defArgs s_House_day_lines, defBody s_House_day_lines, defScope s_House_day_lines, []⟩
def d_House_tied : DefY := ⟨.cme "House" "tied", "tied", "House.tied", defArgs s_House_tied, defBody s_House_tied, defScope s_House_tied, []⟩
def d_House_names : DefY := ⟨.met "House" "names", "names", "House.names", defArgs s_House_names, defBody s_House_names, defScope s_House_names, []⟩
def d_House_kinds : DefY := ⟨.met "House" "kinds", "kinds", "House.kinds", defArgs s_House_kinds, defBody s_House_kinds, defScope s_House_kinds, []⟩
def d_House_pairs : DefY := ⟨.met "House" "pairs", "pairs", "House.pairs", defArgs s_House_pairs, defBody s_House_pairs, defScope s_House_pairs, []⟩
def d_House___len__ : DefY := ⟨.met "House" "__len__", "__len__", "House.__len__", defArgs s_House___len__, defBody s_House___len__, defScope s_House___len__, []⟩
def d_House_chance : DefY := ⟨.met "House" "chance", "chance", "House.chance", defArgs s_House_chance, defBody s_House_chance, defScope s_House_chance, []⟩
def d_House_days : DefY := ⟨.met "House" "days", "days", "House.days", defArgs s_House_days, defBody s_House_days, defScope s_House_days, []⟩
def d_House_day_chance : DefY := ⟨.met "House" "day_chance", "day_chance", "House.day_chance", defArgs s_House_day_chance, defBody s_House_day_chance, defScope s_House_day_chance, []⟩
def d_House_there : DefY := ⟨.met "House" "there", "there", "House.there", defArgs s_House_there, defBody s_House_there, defScope s_House_there, []⟩
def d_House_independent : DefY := ⟨.prp "House" "independent", "independent", "House.independent", defArgs s_House_independent, defBody s_House_independent, defScope s_House_independent, []⟩
def d_House___eq__ : DefY := ⟨.met "House" "__eq__", "__eq__", "House.__eq__", defArgs s_House___eq__, defBody s_House___eq__, defScope s_House___eq__, []⟩
def d_House___str__ : DefY := ⟨.met "House" "__str__", "__str__", "House.__str__", defArgs s_House___str__, defBody s_House___str__, defScope s_House___str__, []⟩
def d_House_read : DefY := ⟨.cme "House" "read", "read", "House.read", defArgs s_House_read, defBody s_House_read, defScope s_House_read, []⟩
def d_day_line : DefY := ⟨.glo "day_line", "day_line", "day_line", defArgs s_day_line, defBody s_day_line, defScope s_day_line, []⟩
def d_is_day : DefY := ⟨.glo "is_day", "is_day", "is_day", defArgs s_is_day, defBody s_is_day, defScope s_is_day, []⟩
def d_need_day : DefY := ⟨.glo "need_day", "need_day", "need_day", defArgs s_need_day, defBody s_need_day, defScope s_need_day, []⟩
def d_is_pair : DefY := ⟨.glo "is_pair", "is_pair", "is_pair", defArgs s_is_pair, defBody s_is_pair, defScope s_is_pair, []⟩
def d_need_pair : DefY := ⟨.glo "need_pair", "need_pair", "need_pair", defArgs s_need_pair, defBody s_need_pair, defScope s_need_pair, []⟩
def d_need_house : DefY := ⟨.glo "need_house", "need_house", "need_house", defArgs s_need_house, defBody s_need_house, defScope s_need_house, []⟩
def d_told_days : DefY := ⟨.glo "told_days", "told_days", "told_days", defArgs s_told_days, defBody s_told_days, defScope s_told_days, []⟩
def d_read_kind : DefY := ⟨.glo "read_kind", "read_kind", "read_kind", defArgs s_read_kind, defBody s_read_kind, defScope s_read_kind, []⟩
def d_read_day : DefY := ⟨.glo "read_day", "read_day", "read_day", defArgs s_read_day, defBody s_read_day, defScope s_read_day, []⟩
def d_house_of_lines : DefY := ⟨.glo "house_of_lines", "house_of_lines", "house_of_lines", defArgs s_house_of_lines, defBody s_house_of_lines, defScope s_house_of_lines, []⟩
def d_need_amount : DefY := ⟨.glo "need_amount", "need_amount", "need_amount", defArgs s_need_amount, defBody s_need_amount, defScope s_need_amount, []⟩
def d_need_wish : DefY := ⟨.glo "need_wish", "need_wish", "need_wish", defArgs s_need_wish, defBody s_need_wish, defScope s_need_wish, []⟩
def d_numbers_of : DefY := ⟨.glo "numbers_of", "numbers_of", "numbers_of", defArgs s_numbers_of, defBody s_numbers_of, defScope s_numbers_of, []⟩
def d_Wish___init__ : DefY := ⟨.met "Wish" "__init__", "__init__", "Wish.__init__", defArgs s_Wish___init__, defBody s_Wish___init__, defScope s_Wish___init__, []⟩
def d_Wish_read : DefY := ⟨.cme "Wish" "read", "read", "Wish.read", defArgs s_Wish_read, defBody s_Wish_read, defScope s_Wish_read, []⟩
def d_Wish_number : DefY := ⟨.met "Wish" "number", "number", "Wish.number", defArgs s_Wish_number, defBody s_Wish_number, defScope s_Wish_number, []⟩
def d_Wish_numbers : DefY := ⟨.met "Wish" "numbers", "numbers", "Wish.numbers", defArgs s_Wish_numbers, defBody s_Wish_numbers, defScope s_Wish_numbers, []⟩
def d_Wish_want : DefY := ⟨.met "Wish" "want", "want", "Wish.want", defArgs s_Wish_want, defBody s_Wish_want, defScope s_Wish_want, []⟩
def d_Wish_total : DefY := ⟨.met "Wish" "total", "total", "Wish.total", defArgs s_Wish_total, defBody s_Wish_total, defScope s_Wish_total, []⟩
def d_Wish_of_bidder : DefY := ⟨.met "Wish" "of_bidder", "of_bidder", "Wish.of_bidder", defArgs s_Wish_of_bidder, defBody s_Wish_of_bidder, defScope s_Wish_of_bidder, []⟩
def d_Wish_scaled : DefY := ⟨.met "Wish" "scaled", "scaled", "Wish.scaled", defArgs s_Wish_scaled, defBody s_Wish_scaled, defScope s_Wish_scaled, []⟩
def d_Wish_mixed : DefY := ⟨.met "Wish" "mixed", "mixed", "Wish.mixed", defArgs s_Wish_mixed, defBody s_Wish_mixed, defScope s_Wish_mixed, []⟩
def d_Wish_with_number : DefY := ⟨.met "Wish" "with_number", "with_number", "Wish.with_number", defArgs s_Wish_with_number, defBody s_Wish_with_number, defScope s_Wish_with_number, []⟩
def d_Wish_turned : DefY := ⟨.met "Wish" "turned", "turned", "Wish.turned", defArgs s_Wish_turned, defBody s_Wish_turned, defScope s_Wish_turned, []⟩
def d_Wish_within : DefY := ⟨.met "Wish" "within", "within", "Wish.within", defArgs s_Wish_within, defBody s_Wish_within, defScope s_Wish_within, []⟩
def d_Wish___eq__ : DefY := ⟨.met "Wish" "__eq__", "__eq__", "Wish.__eq__", defArgs s_Wish___eq__, defBody s_Wish___eq__, defScope s_Wish___eq__, []⟩
def d_Wish___str__ : DefY := ⟨.met "Wish" "__str__", "__str__", "Wish.__str__", defArgs s_Wish___str__, defBody s_Wish___str__, defScope s_Wish___str__, []⟩
def d_is_order : DefY := ⟨.glo "is_order", "is_order", "is_order", defArgs s_is_order, defBody s_is_order, defScope s_is_order, []⟩
def d_need_order : DefY := ⟨.glo "need_order", "need_order", "need_order", defArgs s_need_order, defBody s_need_order, defScope s_need_order, []⟩
def d_first_there : DefY := ⟨.glo "first_there", "first_there", "first_there", defArgs s_first_there, defBody s_first_there, defScope s_first_there, []⟩
def d_order_wish : DefY := ⟨.glo "order_wish", "order_wish", "order_wish", defArgs s_order_wish, defBody s_order_wish, defScope s_order_wish, []⟩
def d_told_values : DefY := ⟨.glo "told_values", "told_values", "told_values", defArgs s_told_values, defBody s_told_values, defScope s_told_values, []⟩
def d_told_payments : DefY := ⟨.glo "told_payments", "told_payments", "told_payments", defArgs s_told_payments, defBody s_told_payments, defScope s_told_payments, []⟩
def d_rising : DefY := ⟨.glo "rising", "rising", "rising", defArgs s_rising, defBody s_rising, defScope s_rising, []⟩
def d_fall_of : DefY := ⟨.glo "fall_of", "fall_of", "fall_of", defArgs s_fall_of, defBody s_fall_of, defScope s_fall_of, []⟩
def d_fall : DefY := ⟨.glo "fall", "fall", "fall", defArgs s_fall, defBody s_fall, defScope s_fall, []⟩
def d_gained : DefY := ⟨.glo "gained", "gained", "gained", defArgs s_gained, defBody s_gained, defScope s_gained, []⟩
def d_lies_of : DefY := ⟨.glo "lies_of", "lies_of", "lies_of", defArgs s_lies_of, defBody s_lies_of, defScope s_lies_of, []⟩
def d_lies : DefY := ⟨.glo "lies", "lies", "lies", defArgs s_lies, defBody s_lies, defScope s_lies, []⟩
def d_are_fair : DefY := ⟨.glo "are_fair", "are_fair", "are_fair", defArgs s_are_fair, defBody s_are_fair, defScope s_are_fair, []⟩
def d_paid_by : DefY := ⟨.glo "paid_by", "paid_by", "paid_by", defArgs s_paid_by, defBody s_paid_by, defScope s_paid_by, []⟩
def d_greatest_payments : DefY := ⟨.glo "greatest_payments", "greatest_payments", "greatest_payments", defArgs s_greatest_payments, defBody s_greatest_payments, defScope s_greatest_payments, []⟩
def d_income : DefY := ⟨.glo "income", "income", "income", defArgs s_income, defBody s_income, defScope s_income, []⟩
def d_plain_gains : DefY := ⟨.glo "plain_gains", "plain_gains", "plain_gains", defArgs s_plain_gains, defBody s_plain_gains, defScope s_plain_gains, []⟩
def d_Pool___init__ : DefY := ⟨.met "Pool" "__init__", "__init__", "Pool.__init__", defArgs s_Pool___init__, defBody s_Pool___init__, defScope s_Pool___init__, []⟩
def d_Pool_mean : DefY := ⟨.met "Pool" "mean", "mean", "Pool.mean", defArgs s_Pool_mean, defBody s_Pool_mean, defScope s_Pool_mean, []⟩
def d_Pool_joined : DefY := ⟨.met "Pool" "joined", "joined", "Pool.joined", defArgs s_Pool_joined, defBody s_Pool_joined, defScope s_Pool_joined, []⟩
def d_evened_of : DefY := ⟨.glo "evened_of", "evened_of", "evened_of", defArgs s_evened_of, defBody s_evened_of, defScope s_evened_of, []⟩
def d_evened : DefY := ⟨.glo "evened", "evened", "evened", defArgs s_evened, defBody s_evened, defScope s_evened, []⟩
def d_best_income : DefY := ⟨.glo "best_income", "best_income", "best_income", defArgs s_best_income, defBody s_best_income, defScope s_best_income, []⟩
def d__law_cell : DefY := ⟨.glo "_law_cell", "_law_cell", "_law_cell", defArgs s__law_cell, defBody s__law_cell, defScope s__law_cell, []⟩
def d__law_box : DefY := ⟨.glo "_law_box", "_law_box", "_law_box", defArgs s__law_box, defBody s__law_box, defScope s__law_box, []⟩
def d__law_take : DefY := ⟨.glo "_law_take", "_law_take", "_law_take", defArgs s__law_take, defBody s__law_take, defScope s__law_take, []⟩
def d__law_frac : DefY := ⟨.glo "_law_frac", "_law_frac", "_law_frac", defArgs s__law_frac, defBody s__law_frac, defScope s__law_frac, []⟩
def d__law_plus : DefY := ⟨.glo "_law_plus", "_law_plus", "_law_plus", defArgs s__law_plus, defBody s__law_plus, defScope s__law_plus, []⟩
def d__law_times : DefY := ⟨.glo "_law_times", "_law_times", "_law_times", defArgs s__law_times, defBody s__law_times, defScope s__law_times, []⟩
def d__law_less : DefY := ⟨.glo "_law_less", "_law_less", "_law_less", defArgs s__law_less, defBody s__law_less, defScope s__law_less, []⟩
def d__law_sum : DefY := ⟨.glo "_law_sum", "_law_sum", "_law_sum", defArgs s__law_sum, defBody s__law_sum, defScope s__law_sum, []⟩
def d__law_given : DefY := ⟨.glo "_law_given", "_law_given", "_law_given", defArgs s__law_given, defBody s__law_given, defScope s__law_given, []⟩
def d__law_told : DefY := ⟨.glo "_law_told", "_law_told", "_law_told", defArgs s__law_told, defBody s__law_told, defScope s__law_told, []⟩
def d__law_all_days : DefY := ⟨.glo "_law_all_days", "_law_all_days", "_law_all_days", defArgs s__law_all_days, defBody s__law_all_days, defScope s__law_all_days, []⟩
def d__law_shuffled : DefY := ⟨.glo "_law_shuffled", "_law_shuffled", "_law_shuffled", defArgs s__law_shuffled, defBody s__law_shuffled, defScope s__law_shuffled, []⟩
def d__law_free_table : DefY := ⟨.glo "_law_free_table", "_law_free_table", "_law_free_table", defArgs s__law_free_table, defBody s__law_free_table, defScope s__law_free_table, []⟩
def d__law_tied_table : DefY := ⟨.glo "_law_tied_table", "_law_tied_table", "_law_tied_table", defArgs s__law_tied_table, defBody s__law_tied_table, defScope s__law_tied_table, []⟩
def d__law_model : DefY := ⟨.glo "_law_model", "_law_model", "_law_model", defArgs s__law_model, defBody s__law_model, defScope s__law_model, []⟩
def d__law_pairs : DefY := ⟨.glo "_law_pairs", "_law_pairs", "_law_pairs", defArgs s__law_pairs, defBody s__law_pairs, defScope s__law_pairs, []⟩
def d__law_there : DefY := ⟨.glo "_law_there", "_law_there", "_law_there", defArgs s__law_there, defBody s__law_there, defScope s__law_there, []⟩
def d__law_open : DefY := ⟨.glo "_law_open", "_law_open", "_law_open", defArgs s__law_open, defBody s__law_open, defScope s__law_open, []⟩
def d__law_chance : DefY := ⟨.glo "_law_chance", "_law_chance", "_law_chance", defArgs s__law_chance, defBody s__law_chance, defScope s__law_chance, []⟩
def d__law_built : DefY := ⟨.glo "_law_built", "_law_built", "_law_built", defArgs s__law_built, defBody s__law_built, defScope s__law_built, []⟩
def d__law_asked : DefY := ⟨.glo "_law_asked", "_law_asked", "_law_asked", defArgs s__law_asked, defBody s__law_asked, defScope s__law_asked, []⟩
def d__law_caught : DefY := ⟨.glo "_law_caught", "_law_caught", "_law_caught", defArgs s__law_caught, defBody s__law_caught, defScope s__law_caught, []⟩
def d__law_pools : DefY := ⟨.glo "_law_pools", "_law_pools", "_law_pools", defArgs s__law_pools, defBody s__law_pools, defScope s__law_pools, []⟩
def d__law_values_right : DefY := ⟨.glo "_law_values_right", "_law_values_right", "_law_values_right", defArgs s__law_values_right, defBody s__law_values_right, defScope s__law_values_right, []⟩
def d__law_paid_right : DefY := ⟨.glo "_law_paid_right", "_law_paid_right", "_law_paid_right", defArgs s__law_paid_right, defBody s__law_paid_right, defScope s__law_paid_right, []⟩
def d_law : DefY := ⟨.glo "law", "law", "law", defArgs s_law, defBody s_law, defScope s_law, []⟩
def fn : List DefY := [d__wall, d_InvalidNumber___init__, d_InvalidText___init__, d_InvalidName___init__, d_InvalidHouse___init__, d_InvalidChance___init__, d_InvalidDay___init__, d_InvalidDays___init__, d_InvalidWish___init__, d_InvalidOrder___init__, d_InvalidWorths___init__, d_Duplicate___init__, d_UnknownName___init__, d_UnknownPair___init__, d_NotIndependent___init__, d_ByZero___init__, d_is_integer, d_is_list, d_common_divisor, d_parts, d_number_in, d_Ratio___init__, d_Ratio_top, d_Ratio_bottom, d_Ratio_read, d_Ratio___add__, d_Ratio___sub__, d_Ratio___mul__, d_Ratio_over, d_Ratio___neg__, d_Ratio___eq__, d_Ratio_below, d_Ratio_text, d_is_number, d_is_amount, d_as_ratio, d_need_numbers, d_total, d_least, d_is_name, d_need_chance, d_need_two, d_need_few, d_need_new_name, d_told_kinds, d_told_bidders, d_every_day, d_pairs_of, d_product_of, d_House___init__, d_House_keep, d_House_has_products, d_House_bidder_lines, d_House_day_lines, d_House_tied, d_House_names, d_House_kinds, d_House_pairs, d_House___len__, d_House_chance, d_House_days, d_House_day_chance, d_House_there, d_House_independent, d_House___eq__, d_House___str__, d_House_read, d_day_line, d_is_day, d_need_day, d_is_pair, d_need_pair, d_need_house, d_told_days, d_read_kind, d_read_day, d_house_of_lines, d_need_amount, d_need_wish, d_numbers_of, d_Wish___init__, d_Wish_read, d_Wish_number, d_Wish_numbers, d_Wish_want, d_Wish_total, d_Wish_of_bidder, d_Wish_scaled, d_Wish_mixed, d_Wish_with_number, d_Wish_turned, d_Wish_within, d_Wish___eq__, d_Wish___str__, d_is_order, d_need_order, d_first_there, d_order_wish, d_told_values, d_told_payments, d_rising, d_fall_of, d_fall, d_gained, d_lies_of, d_lies, d_are_fair, d_paid_by, d_greatest_payments, d_income, d_plain_gains, d_Pool___init__, d_Pool_mean, d_Pool_joined, d_evened_of, d_evened, d_best_income, d__law_cell, d__law_box, d__law_take, d__law_frac, d__law_plus, d__law_times, d__law_less, d__law_sum, d__law_given, d__law_told, d__law_all_days, d__law_shuffled, d__law_free_table, d__law_tied_table, d__law_model, d__law_pairs, d__law_there, d__law_open, d__law_chance, d__law_built, d__law_asked, d__law_caught, d__law_pools, d__law_values_right, d__law_paid_right, d_law]
def fa : List He.Fa := [.glo "_wall", .glo "is_integer", .glo "is_list", .glo "common_divisor", .glo "parts", .glo "number_in", .glo "is_number", .glo "is_amount", .glo "as_ratio", .glo "need_numbers", .glo "total", .glo "least", .glo "is_name", .glo "need_chance", .glo "need_two", .glo "need_few", .glo "need_new_name", .glo "told_kinds", .glo "told_bidders", .glo "every_day", .glo "pairs_of", .glo "product_of", .glo "day_line", .glo "is_day", .glo "need_day", .glo "is_pair", .glo "need_pair", .glo "need_house", .glo "told_days", .glo "read_kind", .glo "read_day", .glo "house_of_lines", .glo "need_amount", .glo "need_wish", .glo "numbers_of", .glo "is_order", .glo "need_order", .glo "first_there", .glo "order_wish", .glo "told_values", .glo "told_payments", .glo "rising", .glo "fall_of", .glo "fall", .glo "gained", .glo "lies_of", .glo "lies", .glo "are_fair", .glo "paid_by", .glo "greatest_payments", .glo "income", .glo "plain_gains", .glo "evened_of", .glo "evened", .glo "best_income", .glo "_law_cell", .glo "_law_box", .glo "_law_take", .glo "_law_frac", .glo "_law_plus", .glo "_law_times", .glo "_law_less", .glo "_law_sum", .glo "_law_given", .glo "_law_told", .glo "_law_all_days", .glo "_law_shuffled", .glo "_law_free_table", .glo "_law_tied_table", .glo "_law_model", .glo "_law_pairs", .glo "_law_there", .glo "_law_open", .glo "_law_chance", .glo "_law_built", .glo "_law_asked", .glo "_law_caught", .glo "_law_pools", .glo "_law_values_right", .glo "_law_paid_right", .glo "law", .glo "WinError", .glo "InvalidNumber", .glo "InvalidText", .glo "InvalidName", .glo "InvalidHouse", .glo "InvalidChance", .glo "InvalidDay", .glo "InvalidDays", .glo "InvalidWish", .glo "InvalidOrder", .glo "InvalidWorths", .glo "Duplicate", .glo "UnknownName", .glo "UnknownPair", .glo "NotIndependent", .glo "ByZero", .glo "Ratio", .glo "House", .glo "Wish", .glo "Pool", .free "abs", .free "all", .free "any", .free "bool", .free "classmethod", .free "dict", .free "enumerate", .free "int", .free "isinstance", .free "len", .free "list", .free "max", .free "min", .free "property", .free "range", .free "set", .free "str", .free "sum", .free "tuple", .free "zip", .int "MOST_SIGNS" 100, .str "DIGITS" "0123456789", .int "MOST_BIDDERS" 4, .int "MOST_KINDS" 4, .int "MOST_DAYS" 60, .int "MOST_LETTERS" 8, .str "BETWEEN" "; "]
def cs : List PySem.Str := ["House", "Wish", "Pool"]
def exL : List (PySem.W.Frag → Bool) := [fun K => kfB K cs,
  fun K => baseInitB K (ga K "WinError"),
  fun K => slotB K (ga K "Ratio") "up" 1,
  fun K => slotB K (ga K "Ratio") "down" 0,
  fun K => mkB K (ga K "Ratio"),
  fun K => eqO (PySem.W.findIn K (.ref (ga K "Ratio")) "__ne__") (some (some (.builtin "object.__ne__"))),
  fun K => oexB K (ga K "InvalidNumber"),
  fun K => ownInitB K (ga K "InvalidNumber"),
  fun K => eqO (PySem.W.findIn K (.ref (ga K "InvalidNumber")) "value") (some none),
  fun K => oexB K (ga K "InvalidText"),
  fun K => ownInitB K (ga K "InvalidText"),
  fun K => eqO (PySem.W.findIn K (.ref (ga K "InvalidText")) "value") (some none),
  fun K => oexB K (ga K "InvalidName"),
  fun K => ownInitB K (ga K "InvalidName"),
  fun K => eqO (PySem.W.findIn K (.ref (ga K "InvalidName")) "value") (some none),
  fun K => oexB K (ga K "InvalidHouse"),
  fun K => ownInitB K (ga K "InvalidHouse"),
  fun K => eqO (PySem.W.findIn K (.ref (ga K "InvalidHouse")) "value") (some none),
  fun K => oexB K (ga K "InvalidChance"),
  fun K => ownInitB K (ga K "InvalidChance"),
  fun K => eqO (PySem.W.findIn K (.ref (ga K "InvalidChance")) "value") (some none),
  fun K => oexB K (ga K "InvalidDay"),
  fun K => ownInitB K (ga K "InvalidDay"),
  fun K => eqO (PySem.W.findIn K (.ref (ga K "InvalidDay")) "value") (some none),
  fun K => oexB K (ga K "InvalidDays"),
  fun K => ownInitB K (ga K "InvalidDays"),
  fun K => eqO (PySem.W.findIn K (.ref (ga K "InvalidDays")) "value") (some none),
  fun K => oexB K (ga K "InvalidWish"),
  fun K => ownInitB K (ga K "InvalidWish"),
  fun K => eqO (PySem.W.findIn K (.ref (ga K "InvalidWish")) "value") (some none),
  fun K => oexB K (ga K "InvalidOrder"),
  fun K => ownInitB K (ga K "InvalidOrder"),
  fun K => eqO (PySem.W.findIn K (.ref (ga K "InvalidOrder")) "value") (some none),
  fun K => oexB K (ga K "InvalidWorths"),
  fun K => ownInitB K (ga K "InvalidWorths"),
  fun K => eqO (PySem.W.findIn K (.ref (ga K "InvalidWorths")) "value") (some none),
  fun K => oexB K (ga K "Duplicate"),
  fun K => ownInitB K (ga K "Duplicate"),
  fun K => eqO (PySem.W.findIn K (.ref (ga K "Duplicate")) "value") (some none),
  fun K => oexB K (ga K "UnknownName"),
  fun K => ownInitB K (ga K "UnknownName"),
  fun K => eqO (PySem.W.findIn K (.ref (ga K "UnknownName")) "name") (some none),
  fun K => oexB K (ga K "UnknownPair"),
  fun K => ownInitB K (ga K "UnknownPair"),
  fun K => eqO (PySem.W.findIn K (.ref (ga K "UnknownPair")) "pair") (some none),
  fun K => oexB K (ga K "NotIndependent"),
  fun K => ownInitB K (ga K "NotIndependent"),
  fun K => oexB K (ga K "ByZero"),
  fun K => ownInitB K (ga K "ByZero"),
  fun K => propB K (ga K "Ratio") "top",
  fun K => propB K (ga K "Ratio") "bottom",
  fun K => cmetB K (ga K "Ratio") "read",
  fun K => methB K (ga K "Ratio") "__add__",
  fun K => ownOpB K (ga K "Ratio") "add",
  fun K => methB K (ga K "Ratio") "__sub__",
  fun K => ownOpB K (ga K "Ratio") "sub",
  fun K => methB K (ga K "Ratio") "__mul__",
  fun K => ownOpB K (ga K "Ratio") "mul",
  fun K => methB K (ga K "Ratio") "over",
  fun K => methB K (ga K "Ratio") "__neg__",
  fun K => methB K (ga K "Ratio") "__eq__",
  fun K => methB K (ga K "Ratio") "below",
  fun K => methB K (ga K "Ratio") "text",
  fun K => mkB K (ga K "House"),
  fun K => methB K (ga K "House") "keep",
  fun K => methB K (ga K "House") "has_products",
  fun K => methB K (ga K "House") "bidder_lines",
  fun K => methB K (ga K "House") "day_lines",
  fun K => cmetB K (ga K "House") "tied",
  fun K => methB K (ga K "House") "names",
  fun K => methB K (ga K "House") "kinds",
  fun K => methB K (ga K "House") "pairs",
  fun K => methB K (ga K "House") "__len__",
  fun K => methB K (ga K "House") "chance",
  fun K => methB K (ga K "House") "days",
  fun K => methB K (ga K "House") "day_chance",
  fun K => methB K (ga K "House") "there",
  fun K => propB K (ga K "House") "independent",
  fun K => methB K (ga K "House") "__eq__",
  fun K => methB K (ga K "House") "__str__",
  fun K => cmetB K (ga K "House") "read",
  fun K => mkB K (ga K "Wish"),
  fun K => cmetB K (ga K "Wish") "read",
  fun K => methB K (ga K "Wish") "number",
  fun K => methB K (ga K "Wish") "numbers",
  fun K => methB K (ga K "Wish") "want",
  fun K => methB K (ga K "Wish") "total",
  fun K => methB K (ga K "Wish") "of_bidder",
  fun K => methB K (ga K "Wish") "scaled",
  fun K => methB K (ga K "Wish") "mixed",
  fun K => methB K (ga K "Wish") "with_number",
  fun K => methB K (ga K "Wish") "turned",
  fun K => methB K (ga K "Wish") "within",
  fun K => methB K (ga K "Wish") "__eq__",
  fun K => methB K (ga K "Wish") "__str__",
  fun K => mkB K (ga K "Pool"),
  fun K => methB K (ga K "Pool") "mean",
  fun K => methB K (ga K "Pool") "joined",
  fun K => eqO (PySem.W.findIn K (.ref (ga K "House")) "own_names") (some none),
  fun K => eqO (PySem.W.findIn K (.ref (ga K "House")) "own_kinds") (some none),
  fun K => eqO (PySem.W.findIn K (.ref (ga K "House")) "table") (some none),
  fun K => eqO (PySem.W.findIn K (.ref (ga K "House")) "own_days") (some none),
  fun K => eqO (PySem.W.findIn K (.ref (ga K "House")) "own_chances") (some none),
  fun K => eqO (PySem.W.findIn K (.ref (ga K "House")) "free") (some none),
  fun K => eqO (PySem.W.findIn K (.ref (ga K "House")) "own_text") (some none),
  fun K => eqO (PySem.W.findIn K (.ref (ga K "Wish")) "house") (some none),
  fun K => eqO (PySem.W.findIn K (.ref (ga K "Wish")) "table") (some none),
  fun K => eqO (PySem.W.findIn K (.ref (ga K "Pool")) "members") (some none),
  fun K => eqO (PySem.W.findIn K (.ref (ga K "Pool")) "weight") (some none),
  fun K => eqO (PySem.W.findIn K (.ref (ga K "Pool")) "worth") (some none),
  fun K => exfB K ["InvalidNumber", "InvalidText", "InvalidName", "InvalidHouse", "InvalidChance", "InvalidDay", "InvalidDays", "InvalidWish", "InvalidOrder", "InvalidWorths", "Duplicate", "UnknownName", "UnknownPair", "NotIndependent", "ByZero"] "WinError",
  fun K => xfB K (ga K "InvalidHouse"),
  fun K => xfB K (ga K "Duplicate"),
  fun K => xfB K (ga K "UnknownPair"),
  fun K => isfB K ["InvalidNumber", "InvalidText", "InvalidName", "InvalidHouse", "InvalidChance", "InvalidDay", "InvalidDays", "InvalidWish", "InvalidOrder", "InvalidWorths", "Duplicate", "UnknownName", "UnknownPair", "NotIndependent", "ByZero"],
  fun K => xflB K ["InvalidHouse", "InvalidNumber", "InvalidWish", "InvalidWorths"] "value"]
def exB (K : PySem.W.Frag) : Bool := exL.all fun b => b K
abbrev TX (K : PySem.W.Frag) (mg : PySem.Str → Option Value) : Prop := TY fa fn exB K mg
theorem xe {K : PySem.W.Frag} {mg : PySem.Str → Option Value} (T : TX K mg) (i : Nat) {b : PySem.W.Frag → Bool} (h : exL[i]? = some b := by rfl) : b K = true := List.all_eq_true.mp T.x b (List.mem_of_getElem? h)
theorem kf {K : PySem.W.Frag} {mg : PySem.Str → Option Value} (T : TX K mg) : KF K cs := kfB_ok (xe T 0) (by decide +kernel)
end Lw
set_option Elab.async false
set_option linter.all false
set_option maxRecDepth 100000
set_option maxHeartbeats 0
namespace Lw
open PySem PySem.Spec PyProof.Rows L2 He Wl Mi
abbrev R : PySem.W.OpenRow := PySem.W.OpenLaw.row PySem.Challenge.rw_winoften_k53_payments_refused
def adrs : List Addr := [2, 3, 21, 31, 51, 70, 89, 108, 127, 146, 165, 184, 203, 222, 241, 260, 279, 298, 317, 326, 333, 340, 347, 352, 452, 463, 470, 477, 482, 489, 496, 501, 508, 515, 522, 529, 536, 543, 548, 553, 560, 687, 696, 703, 710, 715, 722, 729, 734, 741, 746, 751, 758, 765, 772, 877, 886, 893, 900, 905, 910, 915, 920, 927, 934, 941, 948, 955, 960, 965, 972, 977, 982, 1013, 1022, 1029, 1034, 1041, 1048, 1055, 1062, 1069, 1076, 1083, 1090, 1097, 1104, 1109, 1116, 1121, 1126, 1133, 1138, 1143, 1148, 1153, 1158, 1165, 1172, 1179, 1186, 1193, 1200, 20, 30, 50, 69, 88, 107, 126, 145, 164, 183, 202, 221, 240, 259, 278, 297, 316, 325, 332, 339, 346, 351, 451, 462, 469, 476, 481, 488, 495, 500, 507, 514, 521, 528, 535, 542, 547, 552, 559, 686, 695, 702, 709, 714, 721, 728, 733, 740, 745, 750, 757, 764, 771, 876, 885, 892, 899, 904, 909, 914, 919, 926, 933, 940, 947, 954, 959, 964, 971, 976, 981, 1012, 1021, 1028, 1033, 1040, 1047, 1054, 1061, 1068, 1075, 1082, 1089, 1096, 1103, 1108, 1115, 1120, 1125, 1132, 1137, 1142, 1147, 1152, 1157, 1164, 1171, 1178, 1185, 1192, 1199, 48, 67, 86, 105, 124, 143, 162, 181, 200, 219, 238, 257, 276, 295, 314, 368, 376, 384, 391, 399, 406, 413, 420, 427, 434, 441, 448, 453, 454, 572, 577, 582, 587, 592, 599, 607, 614, 619, 626, 633, 640, 647, 654, 662, 667, 674, 683, 784, 793, 801, 808, 815, 822, 829, 836, 843, 850, 857, 864, 869, 874, 996, 1003, 1010, 47, 66, 85, 104, 123, 142, 161, 180, 199, 218, 237, 256, 275, 294, 313, 367, 361, 375, 383, 389, 398, 405, 412, 419, 426, 433, 440, 447, 571, 576, 581, 586, 591, 597, 606, 613, 618, 625, 632, 639, 646, 653, 661, 666, 673, 681, 783, 791, 800, 807, 814, 821, 828, 835, 842, 849, 856, 863, 868, 873, 995, 1002, 1009, 374, 382, 388, 596, 660, 680, 790]
def obsZ (g : Addr → Option Obj) : He.AlD := obsY fa fn exB (frG g adrs)
def hk : PySem.W.Hook where
  α := He.AlD
  obs := fun s => obsZ s.heap.get?
  val := fun _ => valY fn
  says := fun _ h => ∃ K : PySem.W.Frag, K.In h ∧ SaysY fa fn exB K
  of := fun _ _ e => ⟨_, frG_in, e⟩
  keeps := fun _ _ _ ⟨K, hK, c⟩ k => ⟨K, PySem.W.Frag.In.keeps hK k, c⟩
def ob (s : PySem.W.SharedT) : He.AlD := obsZ (HandSHeadRun.getT s)
theorem ob_eq (s : PySem.W.SharedT) : ob s = hk.obs s.abs := by
  have e : HandSHeadRun.getT s = s.abs.heap.get? := funext (HandSHeadRun.getT_eq s)
  unfold ob
  rw [e]; rfl
def names : List PySem.Str := (["_wall", "__name__", "WinError", "InvalidNumber", "InvalidText", "InvalidName", "InvalidHouse", "InvalidChance", "InvalidDay", "InvalidDays", "InvalidWish", "InvalidOrder", "InvalidWorths", "Duplicate", "UnknownName", "UnknownPair", "NotIndependent", "ByZero", "MOST_SIGNS", "DIGITS", "is_integer", "is_list", "common_divisor", "parts", "number_in", "Ratio", "is_number", "is_amount", "as_ratio", "need_numbers"] : List PySem.Str) ++ (["total", "least", "MOST_BIDDERS", "MOST_KINDS", "MOST_DAYS", "MOST_LETTERS", "is_name", "need_chance", "need_two", "need_few", "need_new_name", "told_kinds", "told_bidders", "every_day", "pairs_of", "product_of", "House", "day_line", "is_day", "need_day", "is_pair", "need_pair", "need_house", "told_days", "read_kind", "read_day", "house_of_lines", "BETWEEN", "need_amount", "need_wish"] : List PySem.Str) ++ (["numbers_of", "Wish", "is_order", "need_order", "first_there", "order_wish", "told_values", "told_payments", "rising", "fall_of", "fall", "gained", "lies_of", "lies", "are_fair", "paid_by", "greatest_payments", "income", "plain_gains", "Pool", "evened_of", "evened", "best_income", "_law_cell", "_law_box", "_law_take", "_law_frac", "_law_plus", "_law_times", "_law_less"] : List PySem.Str) ++ (["_law_sum", "_law_given", "_law_told", "_law_all_days", "_law_shuffled", "_law_free_table", "_law_tied_table", "_law_model", "_law_pairs", "_law_there", "_law_open", "_law_chance", "_law_built", "_law_asked", "_law_caught", "_law_pools", "_law_values_right", "_law_paid_right"] : List PySem.Str)
theorem comb2 {α β γ δ : Type} {o : Option α} {f : α → β} {f2 : α → γ} {g : α → δ} {x : β} {y : γ} {z : δ} (h1 : o.map (fun s => (f s, f2 s)) = some (x, y)) (h2 : o.map g = some z) : o.map (fun s => (f s, f2 s, g s)) = some (x, y, z) := by
  cases o with
  | none => cases h1
  | some a =>
    have h1 := Option.some.inj h1
    have h2 := Option.some.inj h2
    have e1 := congrArg Prod.fst h1
    have e2 := congrArg Prod.snd h1
    have e1 : f a = x := e1
    have e2 : f2 a = y := e2
    show some (f a, f2 a, g a) = _
    rw [e1, e2, h2]
theorem comb3 {α β γ : Type} {o : Option α} {f : α → β} {g : α → γ} {x : β} {y : γ} (h1 : o.map f = some x) (h2 : o.map g = some y) : o.map (fun s => (f s, g s)) = some (x, y) := by
  cases o with
  | none => cases h1
  | some a =>
    have e1 : f a = x := Option.some.inj h1
    have e2 : g a = y := Option.some.inj h2
    show some (f a, g a) = _
    rw [e1, e2]
def Kof (s : PySem.W.SharedT) : PySem.W.Frag := frG (HandSHeadRun.getT s) adrs
theorem combA {α : Type} {o : Option α} {f g : α → Bool} (h1 : o.map f = some true) (h2 : o.map g = some true) : o.map (fun s => f s && g s) = some true := by
  cases o with
  | none => cases h1
  | some a =>
    have e1 : f a = true := Option.some.inj h1
    have e2 : g a = true := Option.some.inj h2
    show some (f a && g a) = _
    rw [e1, e2]; rfl
theorem all_cut {α : Type} (n : Nat) (l : List α) (p : α → Bool) : (((l.take n).all p) && ((l.drop n).all p)) = l.all p := by
  rw [← List.all_append, List.take_append_drop]
open HandSHeadRun PySem.W PySem.Calls in
theorem runBa (w : World) (os : OsState) : (endF (stepQ (denQ tabQ) R.prog w) 9650 R.prog w os).map (fun s => exB (Kof s) && fa.all fun f => f.ok (Kof s)) = some true := by
  kernel_rfl
open HandSHeadRun PySem.W PySem.Calls in
theorem runBb (w : World) (os : OsState) : (endF (stepQ (denQ tabQ) R.prog w) 9650 R.prog w os).map (fun s => (fn.take 50).all fun d => d.ok (Kof s)) = some true := by
  kernel_rfl
open HandSHeadRun PySem.W PySem.Calls in
theorem runBd (w : World) (os : OsState) : (endF (stepQ (denQ tabQ) R.prog w) 9650 R.prog w os).map (fun s => (fn.drop 50).all fun d => d.ok (Kof s)) = some true := by
  kernel_rfl
open HandSHeadRun PySem.W PySem.Calls in
theorem runB1 (w : World) (os : OsState) : (endF (stepQ (denQ tabQ) R.prog w) 9650 R.prog w os).map (fun s => (fa.all fun f => f.ok (Kof s)) && ((fn.all fun d => d.ok (Kof s)) && exB (Kof s))) = some true := by
  have h := combA (runBa w os) (combA (runBb w os) (runBd w os))
  have e : (fun s : PySem.W.SharedT => (exB (Kof s) && fa.all fun f => f.ok (Kof s)) && (((fn.take 50).all fun d => d.ok (Kof s)) && ((fn.drop 50).all fun d => d.ok (Kof s)))) = fun s => (fa.all fun f => f.ok (Kof s)) && ((fn.all fun d => d.ok (Kof s)) && exB (Kof s)) := by
    funext s
    rw [all_cut 50 fn]
    cases exB (Kof s) <;> cases (fa.all fun f => f.ok (Kof s)) <;> cases (fn.all fun d => d.ok (Kof s)) <;> rfl
  rw [e] at h
  exact h
open HandSHeadRun PySem.W PySem.Calls in
theorem runB2 (w : World) (os : OsState) : (endF (stepQ (denQ tabQ) R.prog w) 9650 R.prog w os).map (fun s => fn.map fun d => fnY (Kof s) (d.at_.ad (Kof s))) = some (fn.map DefY.val) := by
  kernel_rfl
open HandSHeadRun PySem.W PySem.Calls in
theorem runB (w : World) (os : OsState) : (endF (stepQ (denQ tabQ) R.prog w) 9650 R.prog w os).map ob = some (valY fn) := comb3 (runB1 w os) (runB2 w os)
open HandSHeadRun PySem.W PySem.Calls in
theorem runA (w : World) (os : OsState) : (endF (stepQ (denQ tabQ) R.prog w) 9650 R.prog w os).map (fun s => (looksF R.prog (boot_heap w.params) s.abs, seenQ (PySem.W.view R.prog [114]) names (importedModules R.prog.main.body) (fun s => xlAt (PySem.W.view R.prog [114]) [] s && recOk R.toRowW.records s) s.abs)) = some (true, openGood (PySem.W.view R.prog [114]) names) := by
  kernel_rfl
theorem run (w : World) : HandSHeadRun.RunEq R (PySem.W.view R.prog [114]) hk ob 9650 names w := by
  intro os
  have h := comb2 (runA w os) (runB w os)
  exact h
end Lw
set_option Elab.async false
set_option linter.all false
set_option maxRecDepth 100000
set_option maxHeartbeats 4000000
namespace Wl
open PySem PySem.Spec PyProof.Rows L2 He
theorem walk_ofW {l : PySem.W.OpenLaw} {n k : Nat} {q : Program} {loose : List Str} {XP : (Str → Option Value) → Heap → Prop} {YP : World → Heap → Prop} {d : DefRec} {CX : World → CXT} {x : Str}
    (hn : l.most = some n) (hn2 : n ≤ sizeLine) (hdf : d.params.defaults = []) (hr : Room k callerA)
    (F : ∀ (w : World) (mg : Str → Option Value) (fa : Addr) (h : Heap), YP w h → h.Ns mainGlobals mg → mg d.name = some (.ref fa) →
      ∃ (K : PySem.W.Frag) (fd : FuncData) (sp : Sp), K.In h ∧ (∀ (s : Shared) (u : Value), BindsTo s fd ⟨[u], []⟩ [(x, u)]) ∧
        (∀ (H : Hp) (a : Addr) (ns : List Int), ns.length ≤ n → Only H → SqL K H a (ns.map V.int) → sp [.ref a] H (fun v _ => v = .bl true) fun _ _ _ => False) ∧
        ∀ base : Heap, K.In base → base.Ns mainGlobals mg → FnOk l.prog w K mg base (CX w) k fa fd [x] sp)
    (hCX : ∀ (w : World) (H : Hp) (s : Shared) (e : Value) (s' : Shared), CX w [] H s (fun _ _ _ => False) e s' → False) :
    PySem.W.WalkO q loose XP YP l.row.toRowW d [] (fun f vs => PySem.call f vs) := by
  refine Att.attach_call hn hdf fun w s₀ s₁ mg mb fa o pm cd doc a vs ns G Y ho hd hcd hmg hobj hints hlen hg => ?_
  obtain ⟨K, fd, sp, KX, hb, hsp, hF⟩ := F w mg fa _ Y G.T.g hmg
  exact law_call KX G.T.g G.T.b G.T.builtins G.T.nolimit hg hobj hints (Nat.le_trans hlen hn2) hr hF hb (fun H hO hS => hsp H a ns hlen hO hS) fun H e s' => hCX w H s₁ e s'
end Wl
set_option Elab.async false
set_option linter.all false
set_option maxRecDepth 100000
set_option maxHeartbeats 4000000
namespace Wl
open PySem PySem.Spec PyProof.Rows L2
def SrcC (b : Bool) (h : Heap) (a : Addr) (items : Array Value) : Prop := if b = true then h.IsList a items else h.IsTuple a items
def SrcIt (b : Bool) (h : Heap) (it a : Addr) (i : Nat) : Prop := if b = true then h.IsListIter it a i else h.IsTupleIter it a i
def SrcO (b : Bool) (a : Addr) : Obj := if b = true then { cls := .type "list_iterator", data := .fields #[.ref a, .int 0 0] } else { cls := .type "tuple_iterator", data := .fields #[.ref a, .int 0 0] }
def SrcH (b : Bool) (K : PySem.W.Frag) (H : Hp) (a : Addr) (xs : List V) : Prop := if b = true then SqL K H a xs else SqT K H a xs
theorem srcDraws {prog : Program} {w : World} {A : Around} (b : Bool) (hh : A.handled = none) (it a : Addr) (hne : a ≠ it) (items : Array Value) : Draws prog w A it [it, a] items.size (fun i v => items[i]? = some v) (fun i h => SrcIt b h it a i ∧ SrcC b h a items) := by
  cases b with
  | true => exact Draws.list hh it a hne items
  | false => exact Draws.tuple hh it a hne items
theorem srcBegins (b : Bool) (a : Addr) (items : Array Value) : Begins (.ref a) (SrcO b a) (fun h => SrcC b h a items) := by
  cases b with
  | true => exact begins_list a items
  | false => exact begins_tuple a items
theorem srcFirst (b : Bool) {h : Heap} {it a : Addr} (e : h.get? it = some (SrcO b a)) : SrcIt b h it a 0 := by
  cases b with
  | true => exact ⟨_, e, rfl, rfl⟩
  | false => exact ⟨_, e, rfl, rfl⟩
theorem SrcIt.at {b : Bool} {h h' : Heap} {it a : Addr} {i : Nat} (x : SrcIt b h it a i) (k : ∀ o, h.get? it = some o → h'.get? it = some o) : SrcIt b h' it a i := by
  cases b with
  | true => exact Heap.IsListIter.at x k
  | false => exact Heap.IsTupleIter.at x k
theorem SrcIt.obj {b : Bool} {h : Heap} {it a : Addr} {i : Nat} (x : SrcIt b h it a i) : ∃ o, h.get? it = some o ∧ ∀ v, o.data ≠ .cell v := by
  cases b with
  | true => obtain ⟨o, e, _, d⟩ := x; exact ⟨o, e, fun v q => by rw [d] at q; cases q⟩
  | false => obtain ⟨o, e, _, d⟩ := x; exact ⟨o, e, fun v q => by rw [d] at q; cases q⟩
section
variable {X : Cx} {pins : List (Addr × Obj)} {σ : L2.St} {H : Hp} {s : Shared}
theorem SrcH.at_ {b : Bool} {a : Addr} {xs : List V} (I : Inv X pins σ H s) (h : SrcH b X.K H a xs) : ∃ its : List Value, Vals xs its ∧ SrcC b s.heap a its.toArray ∧ a < s.heap.objs.size := by
  cases b with
  | true => obtain ⟨its, r, p, _⟩ := I.list h; exact ⟨its, r, p.isList, p.lt⟩
  | false => obtain ⟨its, r, p, _⟩ := I.tuple h; exact ⟨its, r, p, p.lt⟩
theorem new_tup {h' : Heap} {tk : Nat} {ch : List Addr} {T : Addr} {vs : List V} {us : List Value} (I : Inv X pins σ H s) (k : ∀ b o, b ∉ ch → s.heap.get? b = some o → h'.get? b = some o) (hf : ∀ b ∈ ch, FpOk X pins H b) (hc : ∀ b ∈ ch, b < s.heap.objs.size) (hT : s.heap.objs.size ≤ T)
    (hv : Vals vs us) (hl : vs.length ≤ sizeLine) (ht : h'.IsTuple T us.toArray) : Inv X pins σ (upd H T (.tup vs)) { s with heap := h', toks := tk } ∧ H T = none ∧ ∀ b ∈ ch, upd H T (.tup vs) b = none := by
  refine ⟨I.turnedNew k hf hT ⟨hl, us, hv, ht⟩, I.hok.fresh hT, fun b hb => ?_⟩
  rw [upd_ne (Nat.ne_of_lt (Nat.lt_of_lt_of_le (hc b hb) hT))]
  exact (hf b hb).1
end
def JZ2 (K : PySem.W.Frag) (b1 b2 : Bool) (a1 a2 : Addr) (xs ys : List V) : It :=
  ⟨fun i H => (SrcH b1 K H a1 xs ∧ SrcH b2 K H a2 ys) ∧ i < min xs.length ys.length, fun i H v H' => ∃ T x y, v = .ref T ∧ H T = none ∧ H' = upd H T (.tup [x, y]) ∧ xs[i]? = some x ∧ ys[i]? = some y,
    fun i H => (SrcH b1 K H a1 xs ∧ SrcH b2 K H a2 ys) ∧ i = min xs.length ys.length⟩
theorem turn_z2 {P : Program} {w : World} {K : PySem.W.Frag} {elts : List Expr} {kk : Nat} {tpos : Pos} {b1 b2 : Bool} {a1 a2 z TI TO i1 i2 : Addr} {xs ys : List V} (D : ZipSep2 z TI TO i1 i2 [i1, a1] [i2, a2]) (n1 : a1 ≠ i1) (n2 : a2 ≠ i2) :
    Turn P w K (.Tuple elts kk tpos) (JZ2 K b1 b2 a1 a2 xs ys) [z, TI, TO, i1, i2] z (fun i h => IsZip h z TI TO .none ∧ IsTupOf2 h TI (.ref i1) (.ref i2) ∧ (∃ x y, IsTupOf2 h TO x y) ∧ SrcIt b1 h i1 a1 i ∧ SrcIt b2 h i2 a2 i) where
  mem := by simp
  obj := fun i h st c hc => by
    obtain ⟨hz, hTI, ⟨x, y, hTO⟩, h1, h2⟩ := st
    have e' : c = z ∨ c = TI ∨ c = TO ∨ c = i1 ∨ c = i2 := by simpa using hc
    rcases e' with rfl | rfl | rfl | rfl | rfl
    · exact ⟨_, hz, fun v q => nomatch q⟩
    · exact ⟨_, hTI, fun v q => nomatch q⟩
    · exact ⟨_, hTO, fun v q => nomatch q⟩
    · exact h1.obj
    · exact h2.obj
  keep := fun i h h' st k => by
    obtain ⟨hz, hTI, ⟨x, y, hTO⟩, h1, h2⟩ := st
    exact ⟨k z (by simp) _ hz, k TI (by simp) _ hTI, ⟨x, y, k TO (by simp) _ hTO⟩, h1.at fun o q => k i1 (by simp) o q, h2.at fun o q => k i2 (by simp) o q⟩
  item := by
    intro X hP hw hK hc i pins s σ H E I hf st hg
    subst hP hw hK
    obtain ⟨hz, hTI, hTO, h1, h2⟩ := st
    obtain ⟨⟨hx, hy⟩, hi⟩ := hg
    obtain ⟨its, rv, c1, l1⟩ := hx.at_ I
    obtain ⟨its2, rv2, c2, l2⟩ := hy.at_ I
    have hh : X.A.in1.handled = none := I.ok.hd hc
    have Gz := GoesN.zip2 (prog := X.prog) (w := X.w) (A := X.A) (elts := elts) (x1 := kk) (pos := tpos) D (srcDraws b1 hh i1 a1 n1 its.toArray) (srcDraws b2 hh i2 a2 n2 its2.toArray)
    have hn : min its.toArray.size its2.toArray.size = min xs.length ys.length := by
      simp only [List.size_toArray]; rw [rv.length, rv2.length]
    refine Gz.goes i s _ E (by rw [hn]; exact hi) ⟨hz, hTI, hTO, ⟨h1, c1⟩, ⟨h2, c2⟩⟩ fun v h' tk hY st' hk htk => ?_
    obtain ⟨T, x, y, rfl, hT, e1, e2, ht⟩ := hY
    obtain ⟨hz', hTI', hTO', ⟨h1', _⟩, ⟨h2', _⟩⟩ := st'
    have ex : xs[i]? = some xs[i] := by simp [show i < xs.length by omega]
    have ey : ys[i]? = some ys[i] := by simp [show i < ys.length by omega]
    obtain ⟨u1, g1, r1⟩ := rv.get ex
    obtain ⟨u2, g2, r2⟩ := rv2.get ey
    have q1 : x = u1 := by have : its[i]? = some x := by simpa using e1
                           rw [this] at g1; exact Option.some.inj g1
    have q2 : y = u2 := by have : its2[i]? = some y := by simpa using e2
                           rw [this] at g2; exact Option.some.inj g2
    subst q1 q2
    have lt : ∀ b ∈ [z, TI, TO, i1, i2], b < s.heap.objs.size := fun b hb => by
      obtain ⟨x0, y0, hTO⟩ := hTO
      have e' : b = z ∨ b = TI ∨ b = TO ∨ b = i1 ∨ b = i2 := by simpa using hb
      rcases e' with rfl | rfl | rfl | rfl | rfl
      · exact Heap.lt_size hz
      · exact Heap.lt_size hTI
      · exact Heap.lt_size hTO
      · obtain ⟨o, e, _⟩ := h1.obj; exact Heap.lt_size e
      · obtain ⟨o, e, _⟩ := h2.obj; exact Heap.lt_size e
    obtain ⟨I1, nT, fr⟩ := new_tup (tk := tk) (ch := [z, TI, TO, i1, i2]) (vs := [xs[i], ys[i]]) (us := [x, y]) I (fun b o hb e => hk b o (fun q => hb (by simp at q ⊢; rcases q with q | q | q | q <;> simp [q])) e) hf lt hT (.cons r1 (.cons r2 .nil)) (by show 2 ≤ sizeLine; decide) ht
    exact ⟨.ref T, _, I1, rfl, ⟨T, _, _, rfl, nT, rfl, ex, ey⟩, ⟨hz', hTI', hTO', h1', h2'⟩, fr⟩
  done := by
    intro X hP hw hK hc i pins s σ H E I hf st hg
    subst hP hw hK
    obtain ⟨hz, hTI, hTO, h1, h2⟩ := st
    obtain ⟨⟨hx, hy⟩, hi⟩ := hg
    obtain ⟨its, rv, c1, l1⟩ := hx.at_ I
    obtain ⟨its2, rv2, c2, l2⟩ := hy.at_ I
    have hh : X.A.in1.handled = none := I.ok.hd hc
    have Gz := GoesN.zip2 (prog := X.prog) (w := X.w) (A := X.A) (elts := elts) (x1 := kk) (pos := tpos) D (srcDraws b1 hh i1 a1 n1 its.toArray) (srcDraws b2 hh i2 a2 n2 its2.toArray)
    have hn : min its.toArray.size its2.toArray.size = i := by
      simp only [List.size_toArray]; rw [← rv.length, ← rv2.length, hi]
    refine Gz.stops s _ E (by rw [hn]; exact ⟨hz, hTI, hTO, ⟨h1, c1⟩, ⟨h2, c2⟩⟩) fun h' tk hk htk => ?_
    exact I.turnedL (t' := tk) (ch := [z, TI, TO, i1, i2]) (fun b o hb e => hk b o (fun q => hb (by simp at q ⊢; rcases q with q | q | q | q <;> simp [q])) e) hf
  self := fun A i s Q E st h => wpAny_pyIter_zip st.1 h
def iZ2 (K : PySem.W.Frag) (ta : TA) : TI := fun σ H R => ta σ H fun vs H1 => ∃ b1 b2 a1 a2 xs ys, vs = [.ref a1, .ref a2] ∧ SrcH b1 K H1 a1 xs ∧ SrcH b2 K H1 a2 ys ∧ R (JZ2 K b1 b2 a1 a2 xs ys) H1
theorem pi_z2 {X : Cx} {e e2 : Expr} {ta : TA} {p pos tpos : Pos} {elts : List Expr} {kk : Nat} (hg : Gl X "zip") (hm : X.mg "zip" = none) (ha : PA X [e, e2] ta)
    (hs : starEach [e, e2] X.env = (false, eval e X.env) :: starEach [e2] X.env := by rfl) (hpl : (backTo pos (starEach [e2] X.env)).any (·.1) = false := by rfl) :
    PI X (.Tuple elts kk tpos) (.Call (.Name "zip" p) [e, e2] [] pos) (iZ2 X.K ta) := by
  refine ⟨fun pins s σ H R I h => ?_⟩
  refine Call_ (ld_blt I hg hm PyProof.Rows.boot_zip (PyProof.Rows.callWith_type1 (thn (ha.run pos pins s σ H _ I h) fun us s1 ⟨vs, H1, I1, r1, q1⟩ => ?_) hs hpl))
  obtain ⟨b1, b2, a1, a2, xs, ys, ex, hx, hy, q⟩ := q1
  subst ex
  cases r1 with
  | cons r rr =>
    cases rr with
    | cons r' rr =>
      cases rr
      cases r
      cases r'
      obtain ⟨its, rv, c1, la⟩ := hx.at_ I1
      obtain ⟨its2, rv2, c2, lb⟩ := hy.at_ I1
      refine zip_begins2 (srcBegins b1 a1 its.toArray) (srcBegins b2 a2 its2.toArray) c1 c2 fun h' hz hTI hTO h1 h2 hsz hk => wpAny_pyIter_zip hz ?_
      have I2 : Inv X pins σ H1 { s1 with heap := h' } := I1.kept (t' := s1.toks) hk
      refine ⟨s1.heap.objs.size + 4, [s1.heap.objs.size + 4, s1.heap.objs.size + 2, s1.heap.objs.size + 3, s1.heap.objs.size, s1.heap.objs.size + 1], _, _, H1, rfl, I2,
        turn_z2 (zip_sep2 (N := s1.heap.objs.size) (fp1 := [a1]) (fp2 := [a2]) (by simpa using la) (by simpa using lb)) (Nat.ne_of_lt la) (Nat.ne_of_lt (Nat.lt_succ_of_lt lb)), ⟨hz, hTI, ⟨_, _, hTO⟩, srcFirst b1 h1, srcFirst b2 h2⟩, fun c hcm => ?_, q⟩
      have e' : c = s1.heap.objs.size + 4 ∨ c = s1.heap.objs.size + 2 ∨ c = s1.heap.objs.size + 3 ∨ c = s1.heap.objs.size ∨ c = s1.heap.objs.size + 1 := by simpa using hcm
      have hle : s1.heap.objs.size ≤ c := by
        rcases e' with z | z | z | z | z
        · rw [z]; exact Nat.le_add_right _ _
        · rw [z]; exact Nat.le_add_right _ _
        · rw [z]; exact Nat.le_add_right _ _
        · rw [z]; exact Nat.le_refl _
        · rw [z]; exact Nat.le_add_right _ _
      exact I1.fpOk hle (I1.hok.fresh hle)
def JZ3 (K : PySem.W.Frag) (b1 b2 b3 : Bool) (a1 a2 a3 : Addr) (xs ys zs : List V) : It :=
  ⟨fun i H => (SrcH b1 K H a1 xs ∧ SrcH b2 K H a2 ys ∧ SrcH b3 K H a3 zs) ∧ i < min (min xs.length ys.length) zs.length, fun i H v H' => ∃ T x y u, v = .ref T ∧ H T = none ∧ H' = upd H T (.tup [x, y, u]) ∧ xs[i]? = some x ∧ ys[i]? = some y ∧ zs[i]? = some u,
    fun i H => (SrcH b1 K H a1 xs ∧ SrcH b2 K H a2 ys ∧ SrcH b3 K H a3 zs) ∧ i = min (min xs.length ys.length) zs.length⟩
theorem turn_z3 {P : Program} {w : World} {K : PySem.W.Frag} {elts : List Expr} {kk : Nat} {tpos : Pos} {b1 b2 b3 : Bool} {a1 a2 a3 z TI TO i1 i2 i3 : Addr} {xs ys zs : List V} (D : ZipSep3 z TI TO i1 i2 i3 [i1, a1] [i2, a2] [i3, a3]) (n1 : a1 ≠ i1) (n2 : a2 ≠ i2) (n3 : a3 ≠ i3) :
    Turn P w K (.Tuple elts kk tpos) (JZ3 K b1 b2 b3 a1 a2 a3 xs ys zs) [z, TI, TO, i1, i2, i3] z (fun i h => IsZip h z TI TO .none ∧ IsTupOf3 h TI (.ref i1) (.ref i2) (.ref i3) ∧ (∃ x y u, IsTupOf3 h TO x y u) ∧ SrcIt b1 h i1 a1 i ∧ SrcIt b2 h i2 a2 i ∧ SrcIt b3 h i3 a3 i) where
  mem := by simp
  obj := fun i h st c hc => by
    obtain ⟨hz, hTI, ⟨x, y, u, hTO⟩, h1, h2, h3⟩ := st
    have e' : c = z ∨ c = TI ∨ c = TO ∨ c = i1 ∨ c = i2 ∨ c = i3 := by simpa using hc
    rcases e' with rfl | rfl | rfl | rfl | rfl | rfl
    · exact ⟨_, hz, fun v q => nomatch q⟩
    · exact ⟨_, hTI, fun v q => nomatch q⟩
    · exact ⟨_, hTO, fun v q => nomatch q⟩
    · exact h1.obj
    · exact h2.obj
    · exact h3.obj
  keep := fun i h h' st k => by
    obtain ⟨hz, hTI, ⟨x, y, u, hTO⟩, h1, h2, h3⟩ := st
    exact ⟨k z (by simp) _ hz, k TI (by simp) _ hTI, ⟨x, y, u, k TO (by simp) _ hTO⟩, h1.at fun o q => k i1 (by simp) o q, h2.at fun o q => k i2 (by simp) o q, h3.at fun o q => k i3 (by simp) o q⟩
  item := by
    intro X hP hw hK hc i pins s σ H E I hf st hg
    subst hP hw hK
    obtain ⟨hz, hTI, hTO, h1, h2, h3⟩ := st
    obtain ⟨⟨hx, hy, hw⟩, hi⟩ := hg
    obtain ⟨its, rv, c1, l1⟩ := hx.at_ I
    obtain ⟨its2, rv2, c2, l2⟩ := hy.at_ I
    obtain ⟨its3, rv3, c3, l3⟩ := hw.at_ I
    have hh : X.A.in1.handled = none := I.ok.hd hc
    have Gz := GoesN.zip3 (prog := X.prog) (w := X.w) (A := X.A) (elts := elts) (x1 := kk) (pos := tpos) D (srcDraws b1 hh i1 a1 n1 its.toArray) (srcDraws b2 hh i2 a2 n2 its2.toArray) (srcDraws b3 hh i3 a3 n3 its3.toArray)
    have hn : min (min its.toArray.size its2.toArray.size) its3.toArray.size = min (min xs.length ys.length) zs.length := by
      simp only [List.size_toArray]; rw [rv.length, rv2.length, rv3.length]
    refine Gz.goes i s _ E (by rw [hn]; exact hi) ⟨hz, hTI, hTO, ⟨h1, c1⟩, ⟨h2, c2⟩, ⟨h3, c3⟩⟩ fun v h' tk hY st' hk htk => ?_
    obtain ⟨T, x, y, u, rfl, hT, e1, e2, e3, ht⟩ := hY
    obtain ⟨hz', hTI', hTO', ⟨h1', _⟩, ⟨h2', _⟩, ⟨h3', _⟩⟩ := st'
    have ex : xs[i]? = some xs[i] := by simp [show i < xs.length by omega]
    have ey : ys[i]? = some ys[i] := by simp [show i < ys.length by omega]
    have ez : zs[i]? = some zs[i] := by simp [show i < zs.length by omega]
    obtain ⟨u1, g1, r1⟩ := rv.get ex
    obtain ⟨u2, g2, r2⟩ := rv2.get ey
    obtain ⟨u3, g3, r3⟩ := rv3.get ez
    have q1 : x = u1 := by have : its[i]? = some x := by simpa using e1
                           rw [this] at g1; exact Option.some.inj g1
    have q2 : y = u2 := by have : its2[i]? = some y := by simpa using e2
                           rw [this] at g2; exact Option.some.inj g2
    have q3 : u = u3 := by have : its3[i]? = some u := by simpa using e3
                           rw [this] at g3; exact Option.some.inj g3
    subst q1 q2 q3
    have lt : ∀ b ∈ [z, TI, TO, i1, i2, i3], b < s.heap.objs.size := fun b hb => by
      obtain ⟨x0, y0, u0, hTO⟩ := hTO
      have e' : b = z ∨ b = TI ∨ b = TO ∨ b = i1 ∨ b = i2 ∨ b = i3 := by simpa using hb
      rcases e' with rfl | rfl | rfl | rfl | rfl | rfl
      · exact Heap.lt_size hz
      · exact Heap.lt_size hTI
      · exact Heap.lt_size hTO
      · obtain ⟨o, e, _⟩ := h1.obj; exact Heap.lt_size e
      · obtain ⟨o, e, _⟩ := h2.obj; exact Heap.lt_size e
      · obtain ⟨o, e, _⟩ := h3.obj; exact Heap.lt_size e
    obtain ⟨I1, nT, fr⟩ := new_tup (tk := tk) (ch := [z, TI, TO, i1, i2, i3]) (vs := [xs[i], ys[i], zs[i]]) (us := [x, y, u]) I (fun b o hb e => hk b o (fun q => hb (by simp at q ⊢; rcases q with q | q | q | q | q <;> simp [q])) e) hf lt hT (.cons r1 (.cons r2 (.cons r3 .nil))) (by show 3 ≤ sizeLine; decide) ht
    exact ⟨.ref T, _, I1, rfl, ⟨T, _, _, _, rfl, nT, rfl, ex, ey, ez⟩, ⟨hz', hTI', hTO', h1', h2', h3'⟩, fr⟩
  done := by
    intro X hP hw hK hc i pins s σ H E I hf st hg
    subst hP hw hK
    obtain ⟨hz, hTI, hTO, h1, h2, h3⟩ := st
    obtain ⟨⟨hx, hy, hw⟩, hi⟩ := hg
    obtain ⟨its, rv, c1, l1⟩ := hx.at_ I
    obtain ⟨its2, rv2, c2, l2⟩ := hy.at_ I
    obtain ⟨its3, rv3, c3, l3⟩ := hw.at_ I
    have hh : X.A.in1.handled = none := I.ok.hd hc
    have Gz := GoesN.zip3 (prog := X.prog) (w := X.w) (A := X.A) (elts := elts) (x1 := kk) (pos := tpos) D (srcDraws b1 hh i1 a1 n1 its.toArray) (srcDraws b2 hh i2 a2 n2 its2.toArray) (srcDraws b3 hh i3 a3 n3 its3.toArray)
    have hn : min (min its.toArray.size its2.toArray.size) its3.toArray.size = i := by
      simp only [List.size_toArray]; rw [← rv.length, ← rv2.length, ← rv3.length, hi]
    refine Gz.stops s _ E (by rw [hn]; exact ⟨hz, hTI, hTO, ⟨h1, c1⟩, ⟨h2, c2⟩, ⟨h3, c3⟩⟩) fun h' tk hk htk => ?_
    exact I.turnedL (t' := tk) (ch := [z, TI, TO, i1, i2, i3]) (fun b o hb e => hk b o (fun q => hb (by simp at q ⊢; rcases q with q | q | q | q | q <;> simp [q])) e) hf
  self := fun A i s Q E st h => wpAny_pyIter_zip st.1 h
def iZ3 (K : PySem.W.Frag) (ta : TA) : TI := fun σ H R => ta σ H fun vs H1 => ∃ b1 b2 b3 a1 a2 a3 xs ys zs, vs = [.ref a1, .ref a2, .ref a3] ∧ SrcH b1 K H1 a1 xs ∧ SrcH b2 K H1 a2 ys ∧ SrcH b3 K H1 a3 zs ∧ R (JZ3 K b1 b2 b3 a1 a2 a3 xs ys zs) H1
theorem pi_z3 {X : Cx} {e e2 e3 : Expr} {ta : TA} {p pos tpos : Pos} {elts : List Expr} {kk : Nat} (hg : Gl X "zip") (hm : X.mg "zip" = none) (ha : PA X [e, e2, e3] ta)
    (hs : starEach [e, e2, e3] X.env = (false, eval e X.env) :: starEach [e2, e3] X.env := by rfl) (hpl : (backTo pos (starEach [e2, e3] X.env)).any (·.1) = false := by rfl) :
    PI X (.Tuple elts kk tpos) (.Call (.Name "zip" p) [e, e2, e3] [] pos) (iZ3 X.K ta) := by
  refine ⟨fun pins s σ H R I h => ?_⟩
  refine Call_ (ld_blt I hg hm PyProof.Rows.boot_zip (PyProof.Rows.callWith_type1 (thn (ha.run pos pins s σ H _ I h) fun us s1 ⟨vs, H1, I1, r1, q1⟩ => ?_) hs hpl))
  obtain ⟨b1, b2, b3, a1, a2, a3, xs, ys, zs, ex, hx, hy, hw, q⟩ := q1
  subst ex
  cases r1 with
  | cons r rr =>
    cases rr with
    | cons r' rr =>
      cases rr with
      | cons r'' rr =>
        cases rr
        cases r
        cases r'
        cases r''
        obtain ⟨its, rv, c1, la⟩ := hx.at_ I1
        obtain ⟨its2, rv2, c2, lb⟩ := hy.at_ I1
        obtain ⟨its3, rv3, c3, lc⟩ := hw.at_ I1
        refine zip_begins3 (srcBegins b1 a1 its.toArray) (srcBegins b2 a2 its2.toArray) (srcBegins b3 a3 its3.toArray) c1 c2 c3 fun h' hz hTI hTO h1 h2 h3 hsz hk => wpAny_pyIter_zip hz ?_
        have I2 : Inv X pins σ H1 { s1 with heap := h' } := I1.kept (t' := s1.toks) hk
        refine ⟨s1.heap.objs.size + 5, [s1.heap.objs.size + 5, s1.heap.objs.size + 3, s1.heap.objs.size + 4, s1.heap.objs.size, s1.heap.objs.size + 1, s1.heap.objs.size + 2], _, _, H1, rfl, I2,
          turn_z3 (zip_sep3 (N := s1.heap.objs.size) (fp1 := [a1]) (fp2 := [a2]) (fp3 := [a3]) (by simpa using la) (by simpa using lb) (by simpa using lc)) (Nat.ne_of_lt la) (Nat.ne_of_lt (Nat.lt_succ_of_lt lb)) (Nat.ne_of_lt (Nat.lt_succ_of_lt (Nat.lt_succ_of_lt lc))), ⟨hz, hTI, ⟨_, _, _, hTO⟩, srcFirst b1 h1, srcFirst b2 h2, srcFirst b3 h3⟩, fun c hcm => ?_, q⟩
        have e' : c = s1.heap.objs.size + 5 ∨ c = s1.heap.objs.size + 3 ∨ c = s1.heap.objs.size + 4 ∨ c = s1.heap.objs.size ∨ c = s1.heap.objs.size + 1 ∨ c = s1.heap.objs.size + 2 := by simpa using hcm
        have hle : s1.heap.objs.size ≤ c := by
          rcases e' with z | z | z | z | z | z
          · rw [z]; exact Nat.le_add_right _ _
          · rw [z]; exact Nat.le_add_right _ _
          · rw [z]; exact Nat.le_add_right _ _
          · rw [z]; exact Nat.le_refl _
          · rw [z]; exact Nat.le_add_right _ _
          · rw [z]; exact Nat.le_add_right _ _
        exact I1.fpOk hle (I1.hok.fresh hle)
end Wl
set_option Elab.async false
set_option linter.all false
set_option maxRecDepth 100000
set_option maxHeartbeats 4000000
namespace Mi
open PySem PySem.Spec PyProof.Rows L2 He Wl
def seqWs (S : Sto) : List W → Option (List (List W) × Sto)
  | [] => some ([], S)
  | w :: ws => match seqW S w with
    | some (l, S1) => (match seqWs S1 ws with
      | some (ls, S2) => some (l :: ls, S2)
      | none => none)
    | none => none
def zip2W : List W → List W → List W
  | x :: xs, y :: ys => mkT [x, y] :: zip2W xs ys
  | _, _ => []
def zip3W : List W → List W → List W → List W
  | x :: xs, y :: ys, z :: zs => mkT [x, y, z] :: zip3W xs ys zs
  | _, _, _ => []
theorem zip2W_len : ∀ (xs ys : List W), (zip2W xs ys).length = min xs.length ys.length
  | [], ys => by simp [zip2W]
  | x :: xs, [] => by simp [zip2W]
  | x :: xs, y :: ys => by simp [zip2W, zip2W_len xs ys]
theorem zip3W_len : ∀ (xs ys zs : List W), (zip3W xs ys zs).length = min (min xs.length ys.length) zs.length
  | [], ys, zs => by simp [zip3W]
  | x :: xs, [], zs => by simp [zip3W]
  | x :: xs, y :: ys, [] => by simp [zip3W]
  | x :: xs, y :: ys, z :: zs => by simp [zip3W, zip3W_len xs ys zs]
theorem zip2W_get : ∀ {xs ys : List W} {i : Nat} {w : W}, (zip2W xs ys)[i]? = some w → ∃ x y, xs[i]? = some x ∧ ys[i]? = some y ∧ w = mkT [x, y]
  | [], ys, i, w, e => by simp [zip2W] at e
  | x :: xs, [], i, w, e => by simp [zip2W] at e
  | x :: xs, y :: ys, 0, w, e => by simp [zip2W] at e; exact ⟨x, y, rfl, rfl, e.symm⟩
  | x :: xs, y :: ys, i + 1, w, e => by
    simp [zip2W] at e
    simpa using zip2W_get e
theorem zip3W_get : ∀ {xs ys zs : List W} {i : Nat} {w : W}, (zip3W xs ys zs)[i]? = some w → ∃ x y z, xs[i]? = some x ∧ ys[i]? = some y ∧ zs[i]? = some z ∧ w = mkT [x, y, z]
  | [], ys, zs, i, w, e => by simp [zip3W] at e
  | x :: xs, [], zs, i, w, e => by simp [zip3W] at e
  | x :: xs, y :: ys, [], i, w, e => by simp [zip3W] at e
  | x :: xs, y :: ys, z :: zs, 0, w, e => by simp [zip3W] at e; exact ⟨x, y, z, rfl, rfl, rfl, e.symm⟩
  | x :: xs, y :: ys, z :: zs, i + 1, w, e => by
    simp [zip3W] at e
    simpa using zip3W_get e
def z2M (mr : MA) : MA := fun τ S => (mr τ S).bind fun ws S1 => match seqWs S1 ws with
  | some ([xs, ys], S2) => .ok (zip2W xs ys) S2
  | _ => .no
def z3M (mr : MA) : MA := fun τ S => (mr τ S).bind fun ws S1 => match seqWs S1 ws with
  | some ([xs, ys, zs], S2) => .ok (zip3W xs ys zs) S2
  | _ => .no
def SrcAt (G : Gx) (H : Hp) (Y : Addr → Prop) (α : List Addr) (ws : List W) (v : V) : Prop := ∃ a vs, v = .ref a ∧ ¬ Y a ∧ (H a = some (.lst vs) ∨ H a = some (.tup vs)) ∧ RepWs G H Y α ws vs
theorem SrcAt.stp {G : Gx} {F : Addr → Prop} {α α' : List Addr} {S S' : Sto} {H H' : Hp} {ws : List W} {v : V} (s : Stp α S H α' S' H') (h : SrcAt G H (XX F α S) α ws v) : SrcAt G H' (XX F α' S') α' ws v := by
  obtain ⟨a, vs, e, n, h1, h2⟩ := h
  have st := s.stay (F := F)
  rcases h1 with h1 | h1
  · exact ⟨a, vs, e, st.off h1 n, .inl (st.keep _ _ h1 n), h2.stp s⟩
  · exact ⟨a, vs, e, st.off h1 n, .inr (st.keep _ _ h1 n), h2.stp s⟩
theorem SrcAt.src {G : Gx} {H : Hp} {Y : Addr → Prop} {α : List Addr} {ws : List W} {v : V} (K : PySem.W.Frag) (h : SrcAt G H Y α ws v) : ∃ b a vs, v = .ref a ∧ SrcH b K H a vs ∧ RepWs G H Y α ws vs ∧ ∀ H', (∀ u, H a = some u → H' a = some u) → SrcH b K H' a vs := by
  obtain ⟨a, vs, e, n, h1, h2⟩ := h
  rcases h1 with h1 | h1
  · exact ⟨true, a, vs, e, SqL.of h1, h2, fun H' k => SqL.of (k _ h1)⟩
  · exact ⟨false, a, vs, e, SqT.of h1, h2, fun H' k => SqT.of (k _ h1)⟩
theorem SrcAt.keep {G : Gx} {H : Hp} {Y : Addr → Prop} {α : List Addr} {ws : List W} {v : V} {a : Addr} (h : SrcAt G H Y α ws v) (e : v = .ref a) : ¬ Y a := by
  obtain ⟨b, vs, e', n, _⟩ := h
  rw [e] at e'; cases e'; exact n
theorem seqWs_at {G : Gx} {F : Addr → Prop} {α : List Addr} {H : Hp} : ∀ {ws : List W} {vs : List V} {ls : List (List W)} {S S' : Sto}, Rel G F α S H → RepWs G H (XX F α S) α ws vs → seqWs S ws = some (ls, S') →
    Rel G F α S' H ∧ Stp α S H α S' H ∧ Paired (fun l v => SrcAt G H (XX F α S') α l v) ls vs
  | [], vs, ls, S, S', r, h, e => by cases e; unfold RepWs at h; subst h; exact ⟨r, Stp.refl, .nil⟩
  | w :: ws, vs, ls, S, S', r, h, e => by
    unfold RepWs at h
    obtain ⟨v, vr, rfl, h1, h2⟩ := h
    unfold seqWs at e
    split at e
    · rename_i l S1 e1
      split at e
      · rename_i ls' S2 e2
        cases e
        obtain ⟨r1, s1, a, us, ev, n, ha, hw⟩ := seqW_at r h1 e1
        obtain ⟨r2, s2, p⟩ := seqWs_at r1 (h2.stp s1) e2
        exact ⟨r2, s1.trans s2, .cons (SrcAt.stp s2 ⟨a, us, ev, n, ha, hw⟩) p⟩
      · cases e
    · cases e
section
variable {X : Cx} {Wx : WX} {a b c e o : Expr} {es : List Expr} {pos apos p : Pos} {m mo : ME} {mr : MA} {us : List Nat}
theorem mi_zip2 {tpos : Pos} {elts : List Expr} {kk : Nat} (hg : Gl X "zip") (hm : X.mg "zip" = none) (ha : EA X Wx [a, b] mr)
    (hs : starEach [a, b] X.env = (false, eval a X.env) :: starEach [b] X.env := by rfl) (hpl : (backTo pos (starEach [b] X.env)).any (·.1) = false := by rfl) : EI X Wx (.Tuple elts kk tpos) (.Call (.Name "zip" p) [a, b] [] pos) (z2M mr) :=
  PI.imp (pi_z2 hg hm ha hs hpl) fun σ H R h => by
  refine tIt_then (R := rWs X.gx) (k := fun ws _ S1 => match seqWs S1 ws with
    | some ([xs, ys], S2) => .ok (zip2W xs ys) S2
    | _ => .no) h fun vs H1 F α S τ w r sl rw' f => ?_
  split at f
  · rename_i xs ys S2 e
    obtain ⟨r2, s2, pr⟩ := seqWs_at r rw' e
    cases pr with
    | cons p1 pr =>
      cases pr with
      | cons p2 pr =>
        cases pr
        obtain ⟨b1, a1, v1, rfl, h1, w1, k1⟩ := p1.src X.K
        obtain ⟨b2, a2, v2, rfl, h2, w2, k2⟩ := p2.src X.K
        refine ⟨b1, b2, a1, a2, v1, v2, rfl, h1, h2, f α H1 _ r2 s2 fun F' hF => ?_⟩
        intro i β S3 H3 r3 s3
        have kp : ∀ a, ¬ XX F α S2 a → ∀ u, H1 a = some u → H3 a = some u := fun a n u e => s3.keep a u e (fun z => (hF a z).elim (fun z => n (.inl z)) fun z => by rw [z] at e; cases e) fun z => n (.inr z)
        have q1 := k1 H3 (kp a1 (p1.keep rfl))
        have q2 := k2 H3 (kp a2 (p2.keep rfl))
        have st : Stay (XX F α S2) (XX F' β S3) H1 H3 := ⟨fun a u e n => kp a n u e, fun a u e z => by
          rcases z with z | z
          · rcases hF a z with z | z
            · exact .inl z
            · rw [z] at e; cases e
          · by_cases hf : F' a
            · rcases hF a hf with z | z
              · exact .inl z
              · rw [z] at e; cases e
            · exact .inr (s3.less a u e hf z)⟩
        refine ⟨fun ei => ⟨⟨q1, q2⟩, by rw [ei, zip2W_len, w1.length, w2.length]⟩, fun w ew => ?_⟩
        have hi := (List.getElem?_eq_some_iff.mp ew).1
        rw [zip2W_len, w1.length, w2.length] at hi
        refine ⟨⟨⟨q1, q2⟩, hi⟩, fun x H' y => ?_⟩
        obtain ⟨T, x1, x2, rfl, nT, rfl, e1, e2⟩ := y
        obtain ⟨y1, y2, g1, g2, rfl⟩ := zip2W_get ew
        obtain ⟨u1, g1', t1⟩ := w1.get g1
        obtain ⟨u2, g2', t2⟩ := w2.get g2
        rw [e1] at g1'; cases g1'
        rw [e2] at g2'; cases g2'
        exact ⟨same_new nT, mkT_rep r3 (same_new nT) nT upd_same (RepWs.mk2 (t1.stay st s3.pre) (t2.stay st s3.pre))⟩
  · exact f.elim
theorem mi_zip3 {tpos : Pos} {elts : List Expr} {kk : Nat} (hg : Gl X "zip") (hm : X.mg "zip" = none) (ha : EA X Wx [a, b, c] mr)
    (hs : starEach [a, b, c] X.env = (false, eval a X.env) :: starEach [b, c] X.env := by rfl) (hpl : (backTo pos (starEach [b, c] X.env)).any (·.1) = false := by rfl) : EI X Wx (.Tuple elts kk tpos) (.Call (.Name "zip" p) [a, b, c] [] pos) (z3M mr) :=
  PI.imp (pi_z3 hg hm ha hs hpl) fun σ H R h => by
  refine tIt_then (R := rWs X.gx) (k := fun ws _ S1 => match seqWs S1 ws with
    | some ([xs, ys, zs], S2) => .ok (zip3W xs ys zs) S2
    | _ => .no) h fun vs H1 F α S τ w r sl rw' f => ?_
  split at f
  · rename_i xs ys zs S2 e
    obtain ⟨r2, s2, pr⟩ := seqWs_at r rw' e
    cases pr with
    | cons p1 pr =>
      cases pr with
      | cons p2 pr =>
        cases pr with
        | cons p3 pr =>
          cases pr
          obtain ⟨b1, a1, v1, rfl, h1, w1, k1⟩ := p1.src X.K
          obtain ⟨b2, a2, v2, rfl, h2, w2, k2⟩ := p2.src X.K
          obtain ⟨b3, a3, v3, rfl, h3, w3, k3⟩ := p3.src X.K
          refine ⟨b1, b2, b3, a1, a2, a3, v1, v2, v3, rfl, h1, h2, h3, f α H1 _ r2 s2 fun F' hF => ?_⟩
          intro i β S3 H3 r3 s3
          have kp : ∀ a, ¬ XX F α S2 a → ∀ u, H1 a = some u → H3 a = some u := fun a n u e => s3.keep a u e (fun z => (hF a z).elim (fun z => n (.inl z)) fun z => by rw [z] at e; cases e) fun z => n (.inr z)
          have q1 := k1 H3 (kp a1 (p1.keep rfl))
          have q2 := k2 H3 (kp a2 (p2.keep rfl))
          have q3 := k3 H3 (kp a3 (p3.keep rfl))
          have st : Stay (XX F α S2) (XX F' β S3) H1 H3 := ⟨fun a u e n => kp a n u e, fun a u e z => by
            rcases z with z | z
            · rcases hF a z with z | z
              · exact .inl z
              · rw [z] at e; cases e
            · by_cases hf : F' a
              · rcases hF a hf with z | z
                · exact .inl z
                · rw [z] at e; cases e
              · exact .inr (s3.less a u e hf z)⟩
          refine ⟨fun ei => ⟨⟨q1, q2, q3⟩, by rw [ei, zip3W_len, w1.length, w2.length, w3.length]⟩, fun w ew => ?_⟩
          have hi := (List.getElem?_eq_some_iff.mp ew).1
          rw [zip3W_len, w1.length, w2.length, w3.length] at hi
          refine ⟨⟨⟨q1, q2, q3⟩, hi⟩, fun x H' y => ?_⟩
          obtain ⟨T, x1, x2, x3, rfl, nT, rfl, e1, e2, e3⟩ := y
          obtain ⟨y1, y2, y3, g1, g2, g3, rfl⟩ := zip3W_get ew
          obtain ⟨u1, g1', t1⟩ := w1.get g1
          obtain ⟨u2, g2', t2⟩ := w2.get g2
          obtain ⟨u3, g3', t3⟩ := w3.get g3
          rw [e1] at g1'; cases g1'
          rw [e2] at g2'; cases g2'
          rw [e3] at g3'; cases g3'
          exact ⟨same_new nT, mkT_rep r3 (same_new nT) nT upd_same (RepWs.mkC (t1.stay st s3.pre) (RepWs.mk2 (t2.stay st s3.pre) (t3.stay st s3.pre)))⟩
  · exact f.elim
def signs (x : Str) : List W := x.cps.toList.map fun c => .d (.str ⟨#[c]⟩)
def stM (m : ME) : MA := fun τ S => (m τ S).bind fun w S1 => match w with
  | .d (.str x) => .ok (signs x) S1
  | _ => .no
theorem mi_str {tg : Expr} (he : EE X Wx e m) : EI X Wx tg e (stM m) := PI.imp (pi_str he) fun σ H R h => by
  refine tIt_then (R := rW X.gx) (k := fun w _ S1 => match w with
    | .d (.str x) => .ok (signs x) S1
    | _ => .no) h fun v H1 F α S τ w r sl rw' f => ?_
  split at f
  · rename_i x
    unfold rW RepW Rep at rw'
    subst rw'
    refine ⟨x, rfl, f α H1 _ r Stp.refl fun F' hF => yields_of (F := F) walk_str (by simp [signs]) hF (fun _ _ => trivial) fun i H3 y H' w ew yy kp => ?_⟩
    obtain ⟨rfl, c, ec, rfl⟩ := yy
    refine ⟨fun _ _ e => e, fun X' β pre st fr => ?_⟩
    unfold signs at ew
    rw [List.getElem?_map, Option.map_eq_some_iff] at ew
    obtain ⟨c', e1, rfl⟩ := ew
    have : c' = c := by
      have e2 : x.cps.toList[i]? = some c := by simpa using ec
      rw [e2] at e1; exact (Option.some.inj e1).symm
    subst this
    exact rw_d (rep_str _)
  · exact f.elim
end
end Mi
set_option Elab.async false
set_option linter.all false
set_option maxRecDepth 100000
set_option maxHeartbeats 4000000
namespace Mi
open PySem PySem.Spec PyProof.Rows L2 He Wl
def toPy : Nat → D → Option PyData
  | _, .non => some .none
  | _, .bl b => some (.bool b)
  | _, .int i => some (.int i)
  | _, .str x => some (.str x)
  | n + 1, .lst xs => (mapO (toPy n) xs).map .list
  | n + 1, .tup xs => (mapO (toPy n) xs).map .tuple
  | _, _ => none
mutual
def eqD : D → D → Bool
  | .non, .non => true
  | .bl a, .bl b => a == b
  | .bl a, .int j => (if a then 1 else 0) == j
  | .int i, .bl b => i == (if b then 1 else 0)
  | .int i, .int j => i == j
  | .str x, .str y => x == y
  | .lst xs, .lst ys => eqDs xs ys
  | .tup xs, .tup ys => eqDs xs ys
  | .rat r, .rat s => decide (r = s)
  | .rat r, .int i => decide (r = (i : Rat))
  | .int i, .rat r => decide ((i : Rat) = r)
  | _, _ => false
def eqDs : List D → List D → Bool
  | [], [] => true
  | x :: xs, y :: ys => eqD x y && eqDs xs ys
  | _, _ => false
end
theorem toPy_all {P : PyData → Prop} {n : Nat} (h : ∀ d p, toPy n d = some p → P p) : ∀ {ds : List D} {ps : List PyData}, mapO (toPy n) ds = some ps → ∀ p ∈ ps, P p
  | [], ps, e => by cases e; intro p hp; cases hp
  | d :: ds, ps, e => by
    rw [mapO_cons, Option.bind_eq_some_iff] at e
    obtain ⟨y, e1, e⟩ := e
    rw [Option.bind_eq_some_iff] at e
    obtain ⟨ys, e2, e⟩ := e
    cases e
    intro p hp
    rcases List.mem_cons.mp hp with rfl | hp
    · exact h d _ e1
    · exact toPy_all h e2 p hp
theorem plainAll_of : ∀ {ps : List PyData}, (∀ p ∈ ps, p.plain = true) → PyData.plainAll ps = true
  | [], _ => by simp [PyData.plainAll]
  | p :: ps, h => by simp [PyData.plainAll, h p (by simp), plainAll_of (fun q hq => h q (List.mem_cons_of_mem _ hq))]
theorem depthAll_of {n : Nat} : ∀ {ps : List PyData}, (∀ p ∈ ps, p.depth ≤ n) → PyData.depthAll ps ≤ n
  | [], _ => by simp [PyData.depthAll]
  | p :: ps, h => by
    have h1 := h p (by simp)
    have h2 := depthAll_of (fun q hq => h q (List.mem_cons_of_mem _ hq))
    simp only [PyData.depthAll]; omega
theorem toPy_ok : ∀ {n : Nat} {d : D} {p : PyData}, toPy n d = some p → p.plain = true ∧ p.depth ≤ n := by
  intro n
  induction n with
  | zero => intro d p e; cases d <;> first | (cases e; done) | (cases e; simp [PyData.plain, PyData.depth])
  | succ n ih =>
    intro d p e
    cases d with
    | lst xs =>
      unfold toPy at e
      rw [Option.map_eq_some_iff] at e
      obtain ⟨ps, e, rfl⟩ := e
      have h1 := plainAll_of (toPy_all (fun d p h => (ih h).1) e)
      have h2 := depthAll_of (toPy_all (fun d p h => (ih h).2) e)
      refine ⟨by simpa [PyData.plain] using h1, ?_⟩
      simp only [PyData.depth]; omega
    | tup xs =>
      unfold toPy at e
      rw [Option.map_eq_some_iff] at e
      obtain ⟨ps, e, rfl⟩ := e
      have h1 := plainAll_of (toPy_all (fun d p h => (ih h).1) e)
      have h2 := depthAll_of (toPy_all (fun d p h => (ih h).2) e)
      refine ⟨by simpa [PyData.plain] using h1, ?_⟩
      simp only [PyData.depth]; omega
    | _ => first | (cases e; done) | (cases e; simp [PyData.plain, PyData.depth])
theorem toPy_eqs {n m : Nat} (ih : ∀ {d e : D} {p q : PyData}, toPy n d = some p → toPy m e = some q → PyData.eqv p q = eqD d e) : ∀ {xs ys : List D} {ps qs : List PyData}, mapO (toPy n) xs = some ps → mapO (toPy m) ys = some qs → PyData.eqvAll ps qs = eqDs xs ys
  | [], [], ps, qs, a, b => by cases a; cases b; simp [PyData.eqvAll, eqDs]
  | [], y :: ys, ps, qs, a, b => by
    cases a
    rw [mapO_cons, Option.bind_eq_some_iff] at b
    obtain ⟨_, _, b⟩ := b
    rw [Option.bind_eq_some_iff] at b
    obtain ⟨_, _, b⟩ := b
    cases b
    simp [PyData.eqvAll, eqDs]
  | x :: xs, [], ps, qs, a, b => by
    cases b
    rw [mapO_cons, Option.bind_eq_some_iff] at a
    obtain ⟨_, _, a⟩ := a
    rw [Option.bind_eq_some_iff] at a
    obtain ⟨_, _, a⟩ := a
    cases a
    simp [PyData.eqvAll, eqDs]
  | x :: xs, y :: ys, ps, qs, a, b => by
    rw [mapO_cons, Option.bind_eq_some_iff] at a b
    obtain ⟨p, a1, a⟩ := a
    obtain ⟨q, b1, b⟩ := b
    rw [Option.bind_eq_some_iff] at a b
    obtain ⟨pr, a2, a⟩ := a
    obtain ⟨qr, b2, b⟩ := b
    cases a; cases b
    simp only [PyData.eqvAll, eqDs]
    rw [ih a1 b1, toPy_eqs ih a2 b2]
theorem toPy_eq : ∀ {n m : Nat} {d e : D} {p q : PyData}, toPy n d = some p → toPy m e = some q → PyData.eqv p q = eqD d e := by
  intro n
  induction n with
  | zero =>
    intro m d e p q a b
    cases d <;> first
      | (cases a; done)
      | (cases a
         cases e <;> first
          | (cases m <;> first | (cases b; done) | (cases b; simp [PyData.eqv, eqD]))
          | (cases m with
             | zero => cases b
             | succ m => (unfold toPy at b; rw [Option.map_eq_some_iff] at b; obtain ⟨_, _, rfl⟩ := b; simp [PyData.eqv, eqD])))
  | succ n ih =>
    intro m d e p q a b
    cases d <;> first
      | (cases a; done)
      | (cases a
         cases e <;> first
          | (cases m <;> first | (cases b; done) | (cases b; simp [PyData.eqv, eqD]))
          | (cases m with
             | zero => cases b
             | succ m => (unfold toPy at b; rw [Option.map_eq_some_iff] at b; obtain ⟨_, _, rfl⟩ := b; simp [PyData.eqv, eqD])))
      | (unfold toPy at a
         rw [Option.map_eq_some_iff] at a
         obtain ⟨ps, a, rfl⟩ := a
         cases e <;> first
          | (cases m <;> first | (cases b; done) | (cases b; simp [PyData.eqv, eqD]))
          | (cases m with
             | zero => cases b
             | succ m =>
               (unfold toPy at b
                rw [Option.map_eq_some_iff] at b
                obtain ⟨qs, b, rfl⟩ := b
                first
                 | (simp [PyData.eqv, eqD]; done)
                 | (simp only [PyData.eqv, eqD]; exact toPy_eqs (fun x y => ih x y) a b))))
mutual
theorem rep_dp {G : Gx} {H : Hp} {Y : Addr → Prop} {K : PySem.W.Frag} : ∀ {d : D} {n : Nat} {v : V} {p : PyData}, toPy n d = some p → Rep G H Y d v → Dp K H v p
  | .non, n, v, p, e, h => by cases n <;> (cases e; unfold Rep at h; subst h; exact .non)
  | .bl b, n, v, p, e, h => by cases n <;> (cases e; unfold Rep at h; subst h; exact .bl b)
  | .int b, n, v, p, e, h => by cases n <;> (cases e; unfold Rep at h; subst h; exact .int b)
  | .str b, n, v, p, e, h => by cases n <;> (cases e; unfold Rep at h; subst h; exact .str b)
  | .lst xs, n, v, p, e, h => by
    cases n with
    | zero => cases e
    | succ n =>
      unfold toPy at e
      rw [Option.map_eq_some_iff] at e
      obtain ⟨ps, e, rfl⟩ := e
      unfold Rep at h
      obtain ⟨a, vs, rfl, _, h1, h2⟩ := h
      exact .lst (SqL.of h1) (reps_dp e h2)
  | .tup xs, n, v, p, e, h => by
    cases n with
    | zero => cases e
    | succ n =>
      unfold toPy at e
      rw [Option.map_eq_some_iff] at e
      obtain ⟨ps, e, rfl⟩ := e
      unfold Rep at h
      obtain ⟨a, vs, rfl, _, h1, h2⟩ := h
      exact .tup (SqT.of h1) (reps_dp e h2)
  | .rat _, n, v, p, e, h => by cases n <;> cases e
  | .dct _ _, n, v, p, e, h => by cases n <;> cases e
  | .ins _ _ _, n, v, p, e, h => by cases n <;> cases e
  | .ty _, n, v, p, e, h => by cases n <;> cases e
  | .gl _, n, v, p, e, h => by cases n <;> cases e
  | .scr _, n, v, p, e, h => by cases n <;> cases e
theorem reps_dp {G : Gx} {H : Hp} {Y : Addr → Prop} {K : PySem.W.Frag} : ∀ {d : List D} {n : Nat} {v : List V} {p : List PyData}, mapO (toPy n) d = some p → Reps G H Y d v → DpAll K H v p
  | [], n, v, p, e, h => by cases e; unfold Reps at h; subst h; exact .nil
  | x :: xs, n, v, p, e, h => by
    rw [mapO_cons, Option.bind_eq_some_iff] at e
    obtain ⟨y, e1, e⟩ := e
    rw [Option.bind_eq_some_iff] at e
    obtain ⟨ys, e2, e⟩ := e
    cases e
    unfold Reps at h
    obtain ⟨v1, r, rfl, h1, h2⟩ := h
    exact .cons (rep_dp e1 h1) (reps_dp e2 h2)
end
def plainD (n : Nat) (d : D) : Bool := (toPy n d).isSome
theorem plainD_py {n : Nat} {d : D} (h : plainD n d = true) : ∃ p, toPy n d = some p := Option.isSome_iff_exists.mp h
section
variable {X : Cx}
def eqW (neg : Bool) : Sto → W → W → Option W := fun S x y => match toD 0 S x, toD 0 S y with
  | some a, some b => if (plainD 8 a && plainD 8 b) = true then some (.d (.bl (Bool.xor neg (eqD a b)))) else none
  | _, _ => none
def qEq : Pr := pure2 (eqW false)
def qNe : Pr := pure2 (eqW true)
theorem eqW_of {neg : Bool} {x y : V} {H : Hp} {Q : VK} (q : rQ X.gx (pure2 (eqW neg)) [x, y] H Q) : rEqP X.K neg x y H Q := by
  obtain ⟨F, α, S, wx, wy, w, r, hx, hy, e, k⟩ := rQ_two q
  unfold eqW at e
  split at e
  · rename_i a b ea eb
    split at e
    · rename_i hp
      rw [Bool.and_eq_true] at hp
      obtain ⟨p1, e1⟩ := plainD_py hp.1
      obtain ⟨p2, e2⟩ := plainD_py hp.2
      cases e
      have h1 : Rep X.gx H F a x := toDf_rep r (fun _ z => .inl z) (fun n a e _ => r.noF e) 4 hx ea
      have h2 : Rep X.gx H F b y := toDf_rep r (fun _ z => .inl z) (fun n a e _ => r.noF e) 4 hy eb
      refine ⟨p1, p2, rep_dp e1 h1, rep_dp e2 h2, (toPy_ok e1).1, (toPy_ok e2).1, Nat.le_trans (toPy_ok e1).2 (by decide), ?_⟩
      rw [toPy_eq e1 e2]
      exact k H _ (fun _ _ e => e) (rw_d (rep_bl _))
    · cases e
  · cases e
theorem os_eq (hu : X.A.units + 64 < cLine) : OpS X (compareOp .Eq) qEq := OpR.imp (op_eqP hu) fun x y H Q q => eqW_of q
theorem os_ne (hu : X.A.units + 64 < cLine) : OpS X (compareOp .NotEq) qNe := OpR.imp (op_neP hu) fun x y H Q q => eqW_of q
theorem op_inP (neg : Bool) (hu : X.A.units + 64 < cLine) : OpR X (compareOp (if neg = true then .NotIn else .In)) (fun x y H Q => ∃ d ds, Dp X.K H x d ∧ (Dp X.K H y (.list ds) ∨ Dp X.K H y (.tuple ds)) ∧ d.plain = true ∧ PyData.plainAll ds = true ∧ d.depth ≤ 60 ∧ Q (.bl (Bool.xor neg (ds.any fun z => PyData.eqv z d))) H) := by
  intro pins s σ H x y v u Q I rx ry h
  obtain ⟨d, ds, hd, he, pd, pe, hz, q⟩ := h
  obtain ⟨as, r1⟩ := Dp.reads I d x v hd rx
  have hroom : X.A.units + 1 + min (PyData.depthAll ds) d.depth < cLine := by
    have := Nat.min_le_right (PyData.depthAll ds) d.depth
    omega
  rcases he with he | he
  · obtain ⟨bs, r2⟩ := Dp.reads I (.list ds) y u he ry
    cases neg with
    | false => exact SeqAt.in_list_data r2 r1 pe pd hroom ⟨.bl _, H, I, rfl, by simpa using q⟩
    | true => exact SeqAt.notIn_list_data r2 r1 pe pd hroom ⟨.bl _, H, I, rfl, by simpa using q⟩
  · obtain ⟨bs, r2⟩ := Dp.reads I (.tuple ds) y u he ry
    cases neg with
    | false => exact SeqAt.in_tuple_data r2 r1 pe pd hroom ⟨.bl _, H, I, rfl, by simpa using q⟩
    | true => exact SeqAt.notIn_tuple_data r2 r1 pe pd hroom ⟨.bl _, H, I, rfl, by simpa using q⟩
def inW (neg : Bool) : Sto → W → W → Option W := fun S x y => match toD 0 S x, toD 0 S y with
  | some a, some (.lst bs) => if (plainD 8 a && bs.all (plainD 8)) = true then some (.d (.bl (Bool.xor neg (bs.any fun b => eqD b a)))) else none
  | some a, some (.tup bs) => if (plainD 8 a && bs.all (plainD 8)) = true then some (.d (.bl (Bool.xor neg (bs.any fun b => eqD b a)))) else none
  | _, _ => none
def qIn : Pr := pure2 (inW false)
def qNi : Pr := pure2 (inW true)
theorem allPy {n : Nat} : ∀ {bs : List D}, bs.all (plainD n) = true → ∃ ps, mapO (toPy n) bs = some ps
  | [], _ => ⟨[], rfl⟩
  | b :: bs, h => by
    rw [List.all_cons, Bool.and_eq_true] at h
    obtain ⟨p, e⟩ := plainD_py h.1
    obtain ⟨ps, e'⟩ := allPy h.2
    exact ⟨p :: ps, by rw [mapO_cons, e, e']; rfl⟩
theorem any_py {n m : Nat} {a : D} {p : PyData} (ea : toPy m a = some p) : ∀ {bs : List D} {ps : List PyData}, mapO (toPy n) bs = some ps → (ps.any fun z => PyData.eqv z p) = bs.any fun b => eqD b a
  | [], ps, e => by cases e; rfl
  | b :: bs, ps, e => by
    rw [mapO_cons, Option.bind_eq_some_iff] at e
    obtain ⟨y, e1, e⟩ := e
    rw [Option.bind_eq_some_iff] at e
    obtain ⟨ys, e2, e⟩ := e
    cases e
    rw [List.any_cons, List.any_cons, toPy_eq e1 ea, any_py ea e2]
theorem inW_of {neg : Bool} {x y : V} {H : Hp} {Q : VK} (q : rQ X.gx (pure2 (inW neg)) [x, y] H Q) : ∃ d ds, Dp X.K H x d ∧ (Dp X.K H y (.list ds) ∨ Dp X.K H y (.tuple ds)) ∧ d.plain = true ∧ PyData.plainAll ds = true ∧ d.depth ≤ 60 ∧ Q (.bl (Bool.xor neg (ds.any fun z => PyData.eqv z d))) H := by
  obtain ⟨F, α, S, wx, wy, w, r, hx, hy, e, k⟩ := rQ_two q
  unfold inW at e
  split at e
  · rename_i a bs ea eb
    split at e
    · rename_i hp
      rw [Bool.and_eq_true] at hp
      obtain ⟨p1, e1⟩ := plainD_py hp.1
      obtain ⟨ps, e2⟩ := allPy hp.2
      cases e
      have h1 : Rep X.gx H F a x := toDf_rep r (fun _ z => .inl z) (fun n a e _ => r.noF e) 4 hx ea
      have h2 : Rep X.gx H F (.lst bs) y := toDf_rep r (fun _ z => .inl z) (fun n a e _ => r.noF e) 4 hy eb
      refine ⟨p1, ps, rep_dp e1 h1, .inl (rep_dp (n := 9) (by unfold toPy; rw [e2]; rfl) h2), (toPy_ok e1).1, plainAll_of (toPy_all (fun d p h => (toPy_ok h).1) e2), Nat.le_trans (toPy_ok e1).2 (by decide), ?_⟩
      rw [any_py e1 e2]
      exact k H _ (fun _ _ e => e) (rw_d (rep_bl _))
    · cases e
  · rename_i a bs ea eb
    split at e
    · rename_i hp
      rw [Bool.and_eq_true] at hp
      obtain ⟨p1, e1⟩ := plainD_py hp.1
      obtain ⟨ps, e2⟩ := allPy hp.2
      cases e
      have h1 : Rep X.gx H F a x := toDf_rep r (fun _ z => .inl z) (fun n a e _ => r.noF e) 4 hx ea
      have h2 : Rep X.gx H F (.tup bs) y := toDf_rep r (fun _ z => .inl z) (fun n a e _ => r.noF e) 4 hy eb
      refine ⟨p1, ps, rep_dp e1 h1, .inr (rep_dp (n := 9) (by unfold toPy; rw [e2]; rfl) h2), (toPy_ok e1).1, plainAll_of (toPy_all (fun d p h => (toPy_ok h).1) e2), Nat.le_trans (toPy_ok e1).2 (by decide), ?_⟩
      rw [any_py e1 e2]
      exact k H _ (fun _ _ e => e) (rw_d (rep_bl _))
    · cases e
  · cases e
theorem os_in (hu : X.A.units + 64 < cLine) : OpS X (compareOp .In) qIn := OpR.imp (op_inP false hu) fun x y H Q q => inW_of q
theorem os_ni (hu : X.A.units + 64 < cLine) : OpS X (compareOp .NotIn) qNi := OpR.imp (op_inP true hu) fun x y H Q q => inW_of q
end
end Mi
set_option Elab.async false
set_option linter.all false
set_option maxRecDepth 100000
set_option maxHeartbeats 4000000
namespace Mi
open PySem PySem.Spec PyProof.Rows L2 He Wl
section
variable {G : Gx} {F : Addr → Prop} {α : List Addr} {S : Sto} {H : Hp}
theorem xx_set {n : Nat} {a : Addr} {o o' : O} (ea : α[n]? = some a) (eo : S[n]? = some o) (ho : o.own = true) (ho' : o'.own = true) : XX F α (S.set n o') = XX F α S := by
  have hn : n < S.length := (List.getElem?_eq_some_iff.mp eo).1
  funext b
  apply propext
  constructor
  · rintro (z | ⟨i, u, h1, h2, h3⟩)
    · exact .inl z
    · by_cases hi : n = i
      · subst hi; rw [ea] at h1; cases h1; exact .inr ⟨n, o, ea, eo, ho⟩
      · rw [List.getElem?_set_ne hi] at h2; exact .inr ⟨i, u, h1, h2, h3⟩
  · rintro (z | ⟨i, u, h1, h2, h3⟩)
    · exact .inl z
    · by_cases hi : n = i
      · subst hi; rw [ea] at h1; cases h1; exact .inr ⟨n, o', ea, List.getElem?_set_self hn, ho'⟩
      · exact .inr ⟨i, u, h1, by rw [List.getElem?_set_ne hi]; exact h2, h3⟩
theorem own_set {n : Nat} {a : Addr} {o o' : O} (ea : α[n]? = some a) (eo : S[n]? = some o) (ho : o.own = true) (ho' : o'.own = true) (b : Addr) : own α (S.set n o') b ↔ own α S b := by
  have h := congrFun (xx_set (F := fun _ => False) ea eo ho ho') b
  constructor
  · intro z
    have : XX (fun _ => False) α S b := by rw [← h]; exact .inr z
    exact this.elim (fun z => z.elim) id
  · intro z
    have : XX (fun _ => False) α (S.set n o') b := by rw [h]; exact .inr z
    exact this.elim (fun z => z.elim) id
theorem upd_stay {n : Nat} {a : Addr} {o : O} {u : HO} (ea : α[n]? = some a) (eo : S[n]? = some o) (ho : o.own = true) : Stay (XX F α S) (XX F α S) H (upd H a u) :=
  ⟨fun b v e nb => by rw [upd_ne (fun z : b = a => nb (.inr (by rw [z]; exact ⟨n, o, ea, eo, ho⟩)))]; exact e, fun _ _ _ z => z⟩
theorem rel_set {n : Nat} {a : Addr} {o o' : O} {u : HO} (r : Rel G F α S H) (ea : α[n]? = some a) (eo : S[n]? = some o) (ho : o.own = true) (ho' : o'.own = true) (h : ObjAt G (upd H a u) (XX F α S) α a o') : Rel G F α (S.set n o') (upd H a u) ∧ Stp α S H α (S.set n o') (upd H a u) := by
  have hn : n < S.length := (List.getElem?_eq_some_iff.mp eo).1
  have ex := xx_set (F := F) ea eo ho ho'
  have ne : ∀ {i : Nat} {b : Addr}, α[i]? = some b → i ≠ n → b ≠ a := fun h1 hi z => hi (nodup_at r.nd (z ▸ h1) ea)
  refine ⟨⟨by rw [List.length_set]; exact r.len, r.nd, r.fr, fun b hb => ?_, fun i b eb => ?_, fun i b v eb ev => ?_⟩, ⟨⟨[], by simp⟩, fun b v e nb => ?_, fun b v e z => (own_set ea eo ho ho' b).mp z⟩⟩
  · obtain ⟨v, e⟩ := r.fd b hb
    exact ⟨v, by rw [upd_ne (fun z : b = a => r.noF ea (by rw [← z]; exact hb))]; exact e⟩
  · by_cases hb : b = a
    · exact ⟨u, by rw [hb, upd_same]⟩
    · rw [upd_ne hb]; exact r.ad i b eb
  · rw [ex]
    by_cases hi : n = i
    · subst hi
      rw [ea] at eb; cases eb
      rw [List.getElem?_set_self hn] at ev; cases ev
      exact h
    · rw [List.getElem?_set_ne hi] at ev
      exact (r.obj i b v eb ev).stay (upd_stay ea eo ho) ⟨[], by simp⟩ fun w e _ => by rw [upd_ne (ne eb (Ne.symm hi))]; exact e
  · rw [upd_ne (fun z : b = a => nb (by rw [z]; exact ⟨n, o, ea, eo, ho⟩))]; exact e
end
def bmM (ty : Sto → W → Bool) (q : Pr) (o : ME) (mr : MA) : ME := fun τ S => (o τ S).bind fun w S1 => if ty S1 w = true then (mr τ S1).bind fun ws S2 => run q (w :: ws) S2 else .no
def tyL : Sto → W → Bool := fun S w => (lstOf S w).isSome
def tyS : Sto → W → Bool := fun _ w => match w with
  | .d (.str _) => true
  | _ => false
def TyOk (G : Gx) (T : String) (ty : Sto → W → Bool) : Prop := ∀ F α S H w v, Rel G F α S H → RepW G H (XX F α S) α w v → ty S w = true → tyV G.K T v H
theorem tyL_ok {G : Gx} : TyOk G "list" tyL := fun F α S H w v r h e => by
  obtain ⟨ws, e⟩ := Option.isSome_iff_exists.mp e
  obtain ⟨a, vs, rfl, h1, _⟩ := lstOf_at r h e
  exact .inl ⟨rfl, vs, SqL.of h1⟩
theorem tyS_ok {G : Gx} : TyOk G "str" tyS := fun F α S H w v r h e => by
  unfold tyS at e
  split at e
  · unfold RepW Rep at h; subst h; rfl
  · cases e
section
variable {X : Cx} {Wx : WX} {o e : Expr} {es : List Expr} {mo : ME} {mr : MA} {name : Str} {apos cpos : Pos} {T id : String} {q : Pr} {ty : Sto → W → Bool}
abbrev MtQ (X : Cx) (id : String) (q : Pr) : Prop := MtR X id fun x xs H Q => rQ X.gx q (x :: xs) H Q
theorem MtQ.or {p q : Pr} (h : MtQ X id p) (h' : MtQ X id q) : MtQ X id (orQ p q) := fun pins s σ H x xs v us Q I rx rs z => (rQ_or z).elim (h pins s σ H x xs v us Q I rx rs) (h' pins s σ H x xs v us Q I rx rs)
theorem tBM_of (ht : TyOk X.gx T ty) {σ : L2.St} {H : Hp} {Q : VK} (h : tE X Wx (bmM ty q mo mr) σ H Q) : tBM X.K T (fun x xs H Q => rQ X.gx q (x :: xs) H Q) (tE X Wx mo) (tAr X Wx mr) σ H Q := by
  refine tM_then (R1 := rW X.gx) (k := fun w τ S1 => if ty S1 w = true then (mr τ S1).bind fun ws S2 => run q (w :: ws) S2 else .no) h fun v H1 ⟨F, α, S, τ, b1, r, sl, q1, f⟩ => ?_
  dsimp only at f
  split at f
  · rename_i ht'
    refine ⟨ht F α S H1 b1 v r q1 ht', ?_⟩
    have hk : tK (rW X.gx) (rW X.gx) X.gx Wx (fun w τ S1 => (mr τ S1).bind fun ws S2 => run q (w :: ws) S2) v σ H1 Q := ⟨F, α, S, τ, b1, r, sl, q1, f⟩
    exact tK_then (R2 := rWs X.gx) (k := fun p _ S2 => run q (p.1 :: p.2) S2) (stay_W _) hk fun vs H2 ⟨F, α, S, τ, ⟨b1, b2⟩, r, sl, ⟨q1, q2⟩, f⟩ => rQ_of r (RepWs.mkC q1 q2) f
  · exact f.elim
theorem me_bm (ht : TyOk X.gx T ty) (pa : PlainAttrs T) (slot : Slot T name id) (hty : typeOf (.builtin id) = pure (.type "method_descriptor")) (hm : MtQ X id q) (ho : EE X Wx o mo) (ha : EA X Wx (e :: es) mr)
    (hbase : attributeBase o name X.env (eval o X.env) = eval o X.env := by rfl)
    (hfew : ((backTo cpos (starEach (e :: es) X.env)).all (fun x => !x.1) && (backToKw cpos (keywordEach [] X.env)).all (fun x => x.1.isSome)
      && decide ((e :: es).length + ([] : List Keyword).length + (if ([] : List Keyword).isEmpty then 0 else 1) < 30)) = true := by rfl)
    (hline : (apos.endLine == cpos.line) = true := by rfl) (hs : starEach (e :: es) X.env = (false, eval e X.env) :: starEach es X.env := by rfl) (hplain : (backTo cpos (starEach es X.env)).any (·.1) = false := by rfl) :
    EE X Wx (.Call (.Attribute o name apos) (e :: es) [] cpos) (bmM ty q mo mr) := PE.imp (pe_bm pa slot hty hm ho ha hbase hfew hline hs hplain) fun σ H Q h => tBM_of ht h
def locL (S : Sto) : W → Option (Nat × List W)
  | .loc n => match S[n]? with
    | some (.lst ws) => some (n, ws)
    | _ => none
  | _ => none
theorem locL_at {G : Gx} {F : Addr → Prop} {α : List Addr} {S : Sto} {H : Hp} {w : W} {v : V} {n : Nat} {ws : List W} (r : Rel G F α S H) (h : RepW G H (XX F α S) α w v) (e : locL S w = some (n, ws)) :
    ∃ a vs, v = .ref a ∧ α[n]? = some a ∧ S[n]? = some (.lst ws) ∧ H a = some (.lst vs) ∧ RepWs G H (XX F α S) α ws vs := by
  unfold locL at e
  split at e
  · unfold RepW at h
    obtain ⟨a, ea, rfl⟩ := h
    split at e
    · rename_i es
      cases e
      obtain ⟨vs, h1, h2⟩ := r.obj _ a _ ea es
      exact ⟨a, vs, rfl, ea, es, h1, h2⟩
    · cases e
  · cases e
theorem set_lst {G : Gx} {F : Addr → Prop} {α : List Addr} {S : Sto} {H : Hp} {n : Nat} {a : Addr} {ws ws' : List W} {vs' : List V} (r : Rel G F α S H) (ea : α[n]? = some a) (es : S[n]? = some (.lst ws)) (h : RepWs G H (XX F α S) α ws' vs') :
    Rel G F α (S.set n (.lst ws')) (upd H a (.lst vs')) ∧ Stp α S H α (S.set n (.lst ws')) (upd H a (.lst vs')) :=
  rel_set r ea es rfl rfl ⟨vs', upd_same, h.stay (upd_stay ea es rfl) ⟨[], by simp⟩⟩
def qAppend : Pr := fun S ws => match ws with
  | [x, y] => (match locL S x with
    | some (n, l) => if l.length < 1000000 then some (.d .non, S.set n (.lst (l ++ [y]))) else none
    | none => none)
  | _ => none
theorem mq_append : MtQ X "list.append" qAppend := fun pins s σ H x xs v us Q I rx rs z => by
  obtain ⟨F, α, S, ws, w, S', r, hw, e, k⟩ := z
  unfold qAppend at e
  split at e
  · rename_i wx wy
    split at e
    · rename_i n l el
      split at e
      · rename_i hl
        cases e
        unfold RepWs at hw
        obtain ⟨x', xr, e1, h1, h2⟩ := hw
        cases e1
        obtain ⟨y, rfl⟩ : ∃ y, xs = [y] := by
          have := h2.length
          match xs, this with
          | [y], _ => exact ⟨y, rfl⟩
        obtain ⟨w', ew, h3⟩ := h2.one
        cases ew
        obtain ⟨a, vs, rfl, ea, es, h4, h5⟩ := locL_at r h1 el
        obtain ⟨r2, s2⟩ := set_lst (ws' := l ++ [wy]) (vs' := vs ++ [y]) r ea es (RepWs.append (RepWs.mk1 h3) h5)
        exact mt_append pins s σ H _ _ v us Q I rx rs ⟨a, vs, y, rfl, rfl, h4, by rw [← h5.length]; exact thou' hl, k α _ _ r2 s2 (rw_d rep_non)⟩
      · cases e
    · cases e
  · cases e
abbrev PrS := Sto → W → W → W → Option Sto
def rS (G : Gx) (q : PrS) (o i v : V) (H : Hp) (Q : Hp → Prop) : Prop := ∃ F α S wo wi wv S', Rel G F α S H ∧ RepW G H (XX F α S) α wo o ∧ RepW G H (XX F α S) α wi i ∧ RepW G H (XX F α S) α wv v ∧ q S wo wi wv = some S' ∧ ∀ α' H', Rel G F α' S' H' → Stp α S H α' S' H' → Q H'
abbrev SetQ (X : Cx) (q : PrS) : Prop := PSet X (rS X.gx q)
def orS (p q : PrS) : PrS := fun S o i v => match p S o i v with
  | some r => some r
  | none => q S o i v
theorem SetQ.or {p q : PrS} (h : SetQ X p) (h' : SetQ X q) : SetQ X (orS p q) := fun pins s σ H o i v ov iv u Q I ro ri rv z => by
  obtain ⟨F, α, S, wo, wi, wv, S', r, h1, h2, h3, e, k⟩ := z
  unfold orS at e
  split at e
  · rename_i S2 e2
    cases e
    exact h pins s σ H o i v ov iv u Q I ro ri rv ⟨F, α, S, wo, wi, wv, _, r, h1, h2, h3, e2, k⟩
  · exact h' pins s σ H o i v ov iv u Q I ro ri rv ⟨F, α, S, wo, wi, wv, _, r, h1, h2, h3, e, k⟩
def qSetL : PrS := fun S o i v => match i with
  | .d (.int k) => (match locL S o with
    | some (n, l) => (match ixN l.length k with
      | some j => some (S.set n (.lst (l.set j v)))
      | none => none)
    | none => none)
  | _ => none
theorem RepWs.set {G : Gx} {H : Hp} {Y : Addr → Prop} {α : List Addr} {w : W} {v : V} (hw : RepW G H Y α w v) : ∀ {ws : List W} {vs : List V} (i : Nat), RepWs G H Y α ws vs → RepWs G H Y α (ws.set i w) (vs.set i v)
  | [], vs, i, h => by unfold RepWs at h; subst h; simp; unfold RepWs; rfl
  | x :: ws, vs, i, h => by
    unfold RepWs at h
    obtain ⟨y, r, rfl, h1, h2⟩ := h
    cases i with
    | zero => exact RepWs.mkC hw h2
    | succ i => exact RepWs.mkC h1 (RepWs.set hw i h2)
theorem sq_list : SetQ X qSetL := fun pins s σ H o i v ov iv u Q I ro ri rv z => by
  obtain ⟨F, α, S, wo, wi, wv, S', r, h1, h2, h3, e, k⟩ := z
  unfold qSetL at e
  split at e
  · rename_i kk
    split at e
    · rename_i n l el
      split at e
      · rename_i j ej
        cases e
        unfold RepW Rep at h2
        subst h2
        obtain ⟨a, vs, rfl, ea, es, h4, h5⟩ := locL_at r h1 el
        obtain ⟨r2, s2⟩ := set_lst (ws' := l.set j wv) (vs' := vs.set j v) r ea es (h5.set h3 j)
        exact set_list pins s σ H _ _ v ov iv u Q I ro ri rv ⟨a, vs, kk, j, rfl, rfl, h4, by rw [← h5.length]; exact ej, k α _ r2 s2⟩
      · cases e
    · cases e
  · cases e
def gS (q : PrS) (o i : ME) : MG := fun w τ S => match o τ S with
  | .ok wo S1 => (match i τ S1 with
    | .ok wi S2 => (q S2 wo wi w).map fun S3 => (τ, S3)
    | _ => none)
  | _ => none
theorem mg_sub {i : Expr} {mi : ME} {q : PrS} {us : List Nat} {pos : Pos} (ho : EE X Wx o mo) (hi : EE X Wx i mi) (hs : SetQ X q)
    (ha : ∀ v, assign (.Subscript o i pos) X.env v = (do
      let ov ← holding [v] (eval o X.env)
      let iv ← holding [v, ov] (eval i X.env)
      standAt pos
      holding [v, ov, iv] (setItem ov iv v)
      release [v, ov, iv] []) := by intro _; rfl) : EG X us (.Subscript o i pos) (gS q mo mi) :=
  PG.imp (pg_sub ho hi hs ha) fun v σ H Q ⟨F, α, S, τ, w, τ', S', r, sl, rw', e, k⟩ => by
    unfold gS at e
    split at e
    · rename_i wo S1 eo
      split at e
      · rename_i wi S2 ei
        rw [Option.map_eq_some_iff] at e
        obtain ⟨S3, e, e3⟩ := e
        cases e3
        refine ⟨F, α, S, τ, r, sl, ?_⟩
        rw [eo]
        intro α1 H1 v1 r1 s1 h1
        refine ⟨F, α1, S1, τ, r1, sl.stp s1, ?_⟩
        rw [ei]
        intro α2 H2 v2 r2 s2 h2
        exact ⟨F, α2, S2, wo, wi, w, _, r2, RepW.stp s2 h1, h2, (rw'.stp s1).stp s2, e, fun α3 H3 r3 s3 => k α3 H3 σ r3 ((s1.trans s2).trans s3) (sl.stp ((s1.trans s2).trans s3)) rfl⟩
      · cases e
    · cases e
def putN (f : Str) : List Str → List Str
  | [] => [f]
  | g :: gs => if g = f then g :: gs else g :: putN f gs
def putW (f : Str) (w : W) : List Str → List W → List W
  | g :: gs, x :: xs => if g = f then w :: xs else x :: putW f w gs xs
  | _, _ => [w]
theorem put_zip {G : Gx} {H : Hp} {Y : Addr → Prop} {α : List Addr} {f : Str} {w : W} {v : V} (hw : RepW G H Y α w v) : ∀ {fs : List Str} {ws : List W} {vs : List V}, fs.length = vs.length → RepWs G H Y α ws vs → ∃ us, putF f v (fs.zip vs) = (putN f fs).zip us ∧ (putN f fs).length = us.length ∧ RepWs G H Y α (putW f w fs ws) us
  | [], ws, vs, hl, h => by
    have : vs = [] := by simpa using hl.symm
    subst this
    have : ws = [] := by have := h.length; simpa using this
    subst this
    exact ⟨[v], rfl, rfl, RepWs.mk1 hw⟩
  | g :: gs, ws, vs, hl, h => by
    match vs, hl with
    | u :: us, hl =>
      match ws, h with
      | [], h => unfold RepWs at h; cases h
      | x :: xs, h =>
        unfold RepWs at h
        obtain ⟨u', ur, e, h1, h2⟩ := h
        cases e
        unfold putN putW
        rw [List.zip_cons_cons]
        unfold putF
        by_cases hg : g = f
        · simp only [hg, if_true]
          exact ⟨v :: us, rfl, by simpa using hl, RepWs.mkC hw h2⟩
        · simp only [hg, if_false]
          obtain ⟨us', e1, e2, e3⟩ := put_zip (f := f) hw (fs := gs) (by simpa using hl) h2
          exact ⟨u :: us', by rw [e1]; rfl, by simpa using e2, RepWs.mkC h1 e3⟩
def sfS (c fn : Str) (o e : ME) : MS := fun τ S => (e τ S).out τ fun w S1 => (o τ S1).out τ fun u S2 => match u with
  | .loc n => (match S2[n]? with
    | some (.ins c' fs ws) => if c' = c ∧ fs.length < 1000 then .nx τ (S2.set n (.ins c' (putN fn fs) (putW fn w fs ws))) else .no
    | _ => .no)
  | _ => .no
theorem ms_fld {c fn : Str} {value : Expr} {mv : ME} {pos pos' : Pos} (ha : EE X Wx o mo) (hv : EE X Wx value mv) (cl : Cls X.K (ga X.K c)) (na : NoAttr X.K (ga X.K c) fn) (hs : swapsWith value (some (.Attribute o fn pos')) pos.line X.env = pure false := by rfl) :
    ES X Wx (.Assign [.Attribute o fn pos'] value pos) (sfS c fn mo mv) := PS.imp (ps_fld ha hv hs) fun D σ H h => by
  refine tS_then (R := rW X.gx) (k := fun w τ S1 => (mo τ S1).out τ fun u S2 => match u with
    | .loc n => (match S2[n]? with
      | some (.ins c' fs ws) => if c' = c ∧ fs.length < 1000 then .nx τ (S2.set n (.ins c' (putN fn fs) (putW fn w fs ws))) else .no
      | _ => .no)
    | _ => .no) h fun y H1 F α S τ w r sl hy f => ?_
  refine ⟨F, α, S, τ, r, sl, ?_⟩
  cases em : mo τ S with
  | no => rw [em] at f; exact f
  | ex c fs ws S' => rw [em] at f; exact fun α' H' d r' s' h' => f α' H' d σ r' s' (sl.stp s') h'
  | ok u S2 =>
    rw [em, Res.out_ok] at f
    intro α2 H2 x r2 s2 hx
    split at f
    · rename_i n
      split at f
      · rename_i c' fs ws es
        split at f
        · rename_i hc
          obtain ⟨rfl, hl⟩ := hc
          unfold rW RepW at hx
          obtain ⟨a, ea, rfl⟩ := hx
          obtain ⟨dx, vs, h1, nd, hd, h2, h3⟩ := r2.obj n a _ ea es
          obtain ⟨us, e1, e2, h4⟩ := put_zip (f := fn) (RepW.stp s2 hy) h2 h3
          refine ⟨a, _, dx, _, rfl, h1, cl, na, by rw [List.length_zip]; omega, ?_⟩
          have st := upd_stay (F := F) (H := H2) (u := .ins (ga X.K c') dx (putF fn y (fs.zip vs))) ea es rfl
          have nda : dx ≠ a := fun z => by rw [z, h1] at hd; cases hd
          obtain ⟨r3, s3⟩ := rel_set (u := .ins (ga X.K c') dx (putF fn y (fs.zip vs))) (o' := .ins c' (putN fn fs) (putW fn w fs ws)) r2 ea es rfl rfl ⟨dx, us, by rw [upd_same, e1], nd, by rw [upd_ne nda]; exact hd, e2, h4.stay st ⟨[], by simp⟩⟩
          exact f α2 _ σ r3 (s2.trans s3) ((sl.stp s2).stp s3)
        · exact f.elim
      · exact f.elim
    · exact f.elim
end
end Mi
set_option Elab.async false
set_option linter.all false
set_option maxRecDepth 100000
set_option maxHeartbeats 4000000
namespace Mi
open PySem PySem.Spec PyProof.Rows L2 He Wl
section
variable {X : Cx} {Wx : WX} {a b c e o : Expr} {es : List Expr} {pos p : Pos} {m ma mb mc mo : ME} {mr : MA}
def raS (cn : Str) (fs : List Str) (mr : MA) : MS := fun τ S => (mr τ S).out τ fun ws S1 => if ws.length = fs.length then .ex cn fs ws τ S1 else .no
theorem ms_raise1 {cn fn x : Str} {fI : Addr} {k : Nat} (hc : X.calm = true) (tk : Takes X Wx) (T : OexC X.K (ga X.K cn)) (O : OwnInit X.K (ga X.K cn) fI) (F1 : FnR X.prog X.w X.K X.mg X.base (L2.CX X.prog X.w) k fI (spExc1 (ga X.K cn) fn)) (hr : Room (k + 1) X.A) (hx : Passes (L2.CX X.prog X.w) X E0) (hg : Gl X x) (hm : X.mg x = some (.ref (ga X.K cn))) (ha : EA X Wx [e] mr)
    (hdb : (x == ("__debug__" : Str)) = false := by decide) (he : starEach [e] X.env = (false, eval e X.env) :: starEach [] X.env := by rfl) (hpl : (backTo p (starEach [] X.env)).any (·.1) = false := by rfl) {pp pq : Pos} :
    ES X Wx (.Raise (some (.Call (.Name x pp) [e] [] p)) none pq) (raS cn [fn] mr) := PS.imp (ps_raise hc tk (pmk_exc T O F1 hr hx hg hm ha hdb he hpl)) fun D σ H h =>
  tS_then (R := rWs X.gx) (k := fun ws τ S1 => if ws.length = [fn].length then .ex cn [fn] ws τ S1 else .no) h fun vs H1 F α S τ ws r sl hw f => by
    split at f
    · rename_i hl
      obtain ⟨v, rfl⟩ : ∃ v, vs = [v] := by
        have := hw.length
        match vs, this, hl with
        | [v], _, _ => exact ⟨v, rfl⟩
        | [], h, h' => rw [h'] at h; cases h
        | _ :: _ :: _, h, h' => rw [h'] at h; simp at h
      refine ⟨by show 1 ≤ 1000; decide, rd_exc1 fun d H' sm nd hd => ?_⟩
      exact f α H' (some d) σ (r.same sm) (Stp.same sm) (sl.stp (Stp.same sm)) (.inr ⟨d, [v], rfl, r.fresh nd, hd, rfl, RepWs.stp (Stp.same sm) hw⟩)
    · exact f.elim
theorem ms_raise0 {cn x : Str} {fI : Addr} {k : Nat} (hc : X.calm = true) (tk : Takes X Wx) (T : OexC X.K (ga X.K cn)) (O : OwnInit X.K (ga X.K cn) fI) (F1 : FnR X.prog X.w X.K X.mg X.base (L2.CX X.prog X.w) k fI (spExc0 (ga X.K cn))) (hr : Room (k + 1) X.A) (hx : Passes (L2.CX X.prog X.w) X E0) (hg : Gl X x) (hm : X.mg x = some (.ref (ga X.K cn)))
    (hdb : (x == ("__debug__" : Str)) = false := by decide) {pp pq : Pos} : ES X Wx (.Raise (some (.Call (.Name x pp) [] [] p)) none pq) (raS cn [] aN) := PS.imp (ps_raise hc tk (pmk_exc0 T O F1 hr hx hg hm hdb)) fun D σ H ⟨F, α, S, τ, r, sl, f⟩ =>
  ⟨by decide, rd_exc0 fun H' sm => f α H' none σ (r.same sm) (Stp.same sm) (sl.stp (Stp.same sm)) (.inl ⟨rfl, rfl, rfl⟩)⟩
theorem tChain_of {p q : Pr} {σ : L2.St} {H : Hp} {Q : VK} (h : tE X Wx (chM p q ma mb mc) σ H Q) : tChain (fun x y H Q => rQ X.gx p [x, y] H Q) (fun x y H Q => rQ X.gx q [x, y] H Q) (tE X Wx ma) (tE X Wx mb) (tE X Wx mc) σ H Q := by
  refine tM_then (R1 := rW X.gx) (k := fun x τ S1 => (mb τ S1).bind fun y S2 => (run p [x, y] S2).bind fun z S3 => match z with
    | .d (.bl true) => (mc τ S3).bind fun u S4 => run q [y, u] S4
    | .d (.bl false) => .ok (.d (.bl false)) S3
    | _ => .no) h fun v H1 q1 => tK_then (R2 := rW X.gx) (k := fun pr τ S2 => (run p [pr.1, pr.2] S2).bind fun z S3 => match z with
      | .d (.bl true) => (mc τ S3).bind fun u S4 => run q [pr.2, u] S4
      | .d (.bl false) => .ok (.d (.bl false)) S3
      | _ => .no) (stay_W _) q1 fun y H2 ⟨F, α, S, τ, ⟨b1, b2⟩, r, sl, ⟨q1, q2⟩, f⟩ => ?_
  dsimp only at f
  cases e1 : p S [b1, b2] with
  | none => unfold run at f; rw [e1] at f; exact f.elim
  | some pr =>
    obtain ⟨z, S3⟩ := pr
    refine ⟨F, α, S, [b1, b2], z, S3, r, RepWs.mk2 q1 q2, e1, fun α3 H3 vz r3 s3 hz => ?_⟩
    unfold run at f
    rw [e1, Res.bind_ok] at f
    have f := Fin.stp s3 f
    split at f
    · unfold RepW Rep at hz
      subst hz
      refine ⟨true, rfl, ?_⟩
      simp only [if_true]
      have hk : tK (rW X.gx) (rW X.gx) X.gx Wx (fun w τ S3 => (mc τ S3).bind fun u S4 => run q [w, u] S4) y σ H3 Q := ⟨F, α3, S3, τ, b2, r3, sl.stp s3, RepW.stp s3 q2, f⟩
      exact tK_then (R2 := rW X.gx) (k := fun pr _ S4 => run q [pr.1, pr.2] S4) (stay_W _) hk fun u H4 ⟨F, α, S, τ, ⟨b1, b2⟩, r, sl, ⟨q1, q2⟩, f⟩ => rQ_of r (RepWs.mk2 q1 q2) f
    · unfold RepW Rep at hz
      subst hz
      exact ⟨false, rfl, f α3 H3 _ r3 Stp.refl (rw_d (rep_bl _))⟩
    · exact f.elim
theorem me_chain {op op' : CmpOp} {p q : Pr} (ho : OpS X (compareOp op) p) (ho' : OpS X (compareOp op') q) (ha : EE X Wx a ma) (hb : EE X Wx b mb) (hc : EE X Wx c mc)
    (hm : lastMarks [op, op'] [b, c] = false := by with_unfolding_all rfl) : EE X Wx (.Compare a [op, op'] [b, c] pos) (chM p q ma mb mc) := PE.imp (pe_chain ho ho' ha hb hc hm) fun σ H Q h => tChain_of h
theorem mt_chain {op op' : CmpOp} {p q : Pr} (ho : OpS X (compareOp op) p) (ho' : OpS X (compareOp op') q) (ha : EE X Wx a ma) (hb : EE X Wx b mb) (hc : EE X Wx c mc)
    (hm : lastMarks [op, op'] [b, c] = false := by with_unfolding_all rfl) : ET X Wx (.Compare a [op, op'] [b, c] pos) (tsM (chM p q ma mb mc)) := PT.imp (pt_chain ho ho' ha hb hc hm) fun σ H Q h => tChain_of (tTest_of h)
theorem cs_one {f : Value} {q : Sto → W → Option W} {R : List V → Hp → VK → Prop} (h : CallR X f R) (hq : ∀ F α S H w v w' Q, Rel X.gx F α S H → RepW X.gx H (XX F α S) α w v → q S w = some w' → (∀ H' v', Same H H' → RepW X.gx H' (XX F α S) α w' v' → Q v' H') → R [v] H Q) : CallS X f (pure1 q) :=
  fun pins s σ H vs us Q I rv z => by
    have : ∃ v, vs = [v] := by
      obtain ⟨F, α, S, ws, w, S', r, hw, e, k⟩ := id z
      unfold pure1 at e
      split at e
      · rename_i x
        have := hw.length
        match vs, this with
        | [v], _ => exact ⟨v, rfl⟩
      · cases e
    obtain ⟨v, rfl⟩ := this
    obtain ⟨F, α, S, wx, w, r, hx, e, k⟩ := rQ_one z
    exact h pins s σ H _ us Q I rv (hq F α S H wx v w Q r hx e k)
theorem cs_two {f : Value} {q : Sto → W → W → Option W} {R : List V → Hp → VK → Prop} (h : CallR X f R) (hq : ∀ F α S H w u v x w' Q, Rel X.gx F α S H → RepW X.gx H (XX F α S) α w v → RepW X.gx H (XX F α S) α u x → q S w u = some w' → (∀ H' v', Same H H' → RepW X.gx H' (XX F α S) α w' v' → Q v' H') → R [v, x] H Q) : CallS X f (pure2 q) :=
  fun pins s σ H vs us Q I rv z => by
    have : ∃ v x, vs = [v, x] := by
      obtain ⟨F, α, S, ws, w, S', r, hw, e, k⟩ := id z
      unfold pure2 at e
      split at e
      · rename_i x
        have := hw.length
        match vs, this with
        | [v, x], _ => exact ⟨v, x, rfl⟩
      · cases e
    obtain ⟨v, x, rfl⟩ := this
    obtain ⟨F, α, S, wx, wy, w, r, hx, hy, e, k⟩ := rQ_two z
    exact h pins s σ H _ us Q I rv (hq F α S H wx wy v x w Q r hx hy e k)
def qAbs : Pr := pure1 fun _ x => match x with
  | .d (.int i) => some (.d (.int (if i < 0 then -i else i)))
  | _ => none
theorem cs_abs : CallS X (.builtin "abs") qAbs := cs_one call_abs fun F α S H w v w' Q r h e k => by
  split at e
  · rename_i i; cases e; unfold RepW Rep at h; subst h; exact ⟨i, rfl, k H _ (fun _ _ e => e) (rw_d (rep_int _))⟩
  · cases e
def qMax2 : Pr := pure2 (int2 fun i j => some (.int (if j > i then j else i)))
def qMin2 : Pr := pure2 (int2 fun i j => some (.int (if j < i then j else i)))
theorem cs_max2 (hc : X.calm = true) : CallS X (.builtin "max") qMax2 := cs_two (call_max2 hc) fun F α S H w u v x w' Q r h h' e k => by
  unfold int2 at e
  split at e
  · rename_i i j; cases e; unfold RepW Rep at h h'; subst h h'; exact ⟨i, j, rfl, k H _ (fun _ _ e => e) (rw_d (rep_int _))⟩
  · cases e
theorem cs_min2 (hc : X.calm = true) : CallS X (.builtin "min") qMin2 := cs_two (call_min2 hc) fun F α S H w u v x w' Q r h h' e k => by
  unfold int2 at e
  split at e
  · rename_i i j; cases e; unfold RepW Rep at h h'; subst h h'; exact ⟨i, j, rfl, k H _ (fun _ _ e => e) (rw_d (rep_int _))⟩
  · cases e
def wBools : List W → Option (List Bool)
  | [] => some []
  | .d (.bl i) :: ws => (wBools ws).map (i :: ·)
  | _ => none
def wStrs : List W → Option (List Str)
  | [] => some []
  | .d (.str i) :: ws => (wStrs ws).map (i :: ·)
  | _ => none
theorem wBools_at {G : Gx} {H : Hp} {Y : Addr → Prop} {α : List Addr} : ∀ {ws : List W} {vs : List V} {ns : List Bool}, wBools ws = some ns → RepWs G H Y α ws vs → vs = ns.map V.bl
  | [], vs, ns, e, h => by cases e; unfold RepWs at h; exact h
  | w :: ws, vs, ns, e, h => by
    unfold wBools at e
    split at e
    · rename_i e0; cases e0
    · rename_i i ws' e0
      cases e0
      rw [Option.map_eq_some_iff] at e
      obtain ⟨ms, e, rfl⟩ := e
      unfold RepWs at h
      obtain ⟨v, r, rfl, h1, h2⟩ := h
      unfold RepW Rep at h1
      rw [h1, wBools_at e h2]; rfl
    · cases e
theorem wStrs_at {G : Gx} {H : Hp} {Y : Addr → Prop} {α : List Addr} : ∀ {ws : List W} {vs : List V} {ns : List Str}, wStrs ws = some ns → RepWs G H Y α ws vs → vs = ns.map V.str
  | [], vs, ns, e, h => by cases e; unfold RepWs at h; exact h
  | w :: ws, vs, ns, e, h => by
    unfold wStrs at e
    split at e
    · rename_i e0; cases e0
    · rename_i i ws' e0
      cases e0
      rw [Option.map_eq_some_iff] at e
      obtain ⟨ms, e, rfl⟩ := e
      unfold RepWs at h
      obtain ⟨v, r, rfl, h1, h2⟩ := h
      unfold RepW Rep at h1
      rw [h1, wStrs_at e h2]; rfl
    · cases e
def qAny : Pr := pure1 fun S x => match lstOf S x with
  | some ws => (wBools ws).map fun ns => .d (.bl (ns.any id))
  | none => none
def qAll : Pr := pure1 fun S x => match lstOf S x with
  | some ws => (wBools ws).map fun ns => .d (.bl (ns.all id))
  | none => none
theorem cs_any (hc : X.calm = true) : CallS X (.builtin "any") qAny := cs_one (cr_any hc) fun F α S H w v w' Q r h e k => by
  split at e
  · rename_i ws es
    rw [Option.map_eq_some_iff] at e
    obtain ⟨ns, e, rfl⟩ := e
    obtain ⟨a, vs, rfl, h1, h2⟩ := lstOf_at r h es
    rw [wBools_at e h2] at h1
    exact ⟨a, ns, rfl, SqL.of h1, k H _ (fun _ _ e => e) (rw_d (rep_bl _))⟩
  · cases e
theorem cs_all (hc : X.calm = true) : CallS X (.builtin "all") qAll := cs_one (cr_all hc) fun F α S H w v w' Q r h e k => by
  split at e
  · rename_i ws es
    rw [Option.map_eq_some_iff] at e
    obtain ⟨ns, e, rfl⟩ := e
    obtain ⟨a, vs, rfl, h1, h2⟩ := lstOf_at r h es
    rw [wBools_at e h2] at h1
    exact ⟨a, ns, rfl, SqL.of h1, k H _ (fun _ _ e => e) (rw_d (rep_bl _))⟩
  · cases e
def qStrI : Pr := pure1 fun _ x => match x with
  | .d (.int i) => if i.natAbs.log2 < 1920 then some (.d (.str (toString i))) else none
  | _ => none
theorem cs_strI : CallS X (.type "str") qStrI := cs_one call_str_int fun F α S H w v w' Q r h e k => by
  split at e
  · rename_i i
    split at e
    · rename_i hi; cases e; unfold RepW Rep at h; subst h; exact ⟨i, rfl, hi, k H _ (fun _ _ e => e) (rw_d (rep_str _))⟩
    · cases e
  · cases e
theorem mq_pure {id : String} {q : Sto → List W → Option W} {R : V → List V → Hp → VK → Prop} (h : MtR X id R) (hq : ∀ F α S H w ws v vs w' Q, Rel X.gx F α S H → RepW X.gx H (XX F α S) α w v → RepWs X.gx H (XX F α S) α ws vs → q S (w :: ws) = some w' → (∀ H' v', Same H H' → RepW X.gx H' (XX F α S) α w' v' → Q v' H') → R v vs H Q) : MtQ X id (pureN q) :=
  fun pins s σ H x xs v us Q I rx rs z => by
    obtain ⟨F, α, S, ws, w, r, hw, e, k⟩ := rQ_many z
    match ws, hw with
    | [], hw => unfold RepWs at hw; cases hw
    | w0 :: ws, hw =>
      unfold RepWs at hw
      obtain ⟨v0, vr, e0, h1, h2⟩ := hw
      cases e0
      exact h pins s σ H x xs v us Q I rx rs (hq F α S H w0 ws x xs w Q r h1 h2 e k)
def qJoin : Pr := pureN fun S ws => match ws with
  | [.d (.str a), x] => (match seqOf S x with
    | some l => (match wStrs l with
      | some ys => if (ys.map (·.length)).sum + ys.length * a.length ≤ 16777216 then some (.d (.str (Txt.join a ys))) else none
      | none => none)
    | none => none)
  | _ => none
theorem mq_join : MtQ X "str.join" qJoin := mq_pure mt_join fun F α S H w ws v vs w' Q r h hs e k => by
  split at e
  · rename_i a x e0
    cases e0
    split at e
    · rename_i l el
      split at e
      · rename_i ys ey
        split at e
        · rename_i hl
          cases e
          obtain ⟨x, rfl⟩ : ∃ x, vs = [x] := by
            have := hs.length
            match vs, this with
            | [x], _ => exact ⟨x, rfl⟩
          obtain ⟨w1, e1, h1⟩ := hs.one
          cases e1
          unfold RepW Rep at h
          subst h
          obtain ⟨p, us, rfl, h2, h3⟩ := seqOf_at X.K r h1 el
          rw [wStrs_at ey h3] at h2
          exact ⟨a, p, ys, rfl, rfl, h2, hl, k H _ (fun _ _ e => e) (rw_d (rep_str _))⟩
        · cases e
      · cases e
    · cases e
  · cases e
def flatD : W → Option V
  | .d .non => some .non
  | .d (.bl b) => some (.bl b)
  | .d (.int i) => some (.int i)
  | .d (.str x) => some (.str x)
  | _ => none
theorem flatD_at {G : Gx} {H : Hp} {Y : Addr → Prop} {α : List Addr} {w : W} {v u : V} (e : flatD w = some u) (h : RepW G H Y α w v) : v = u ∧ flatV v = true := by
  unfold flatD at e
  split at e <;> first | (cases e; unfold RepW Rep at h; subst h; exact ⟨rfl, rfl⟩) | cases e
theorem flatDs_at {G : Gx} {H : Hp} {Y : Addr → Prop} {α : List Addr} : ∀ {ws : List W} {vs us : List V}, mapO flatD ws = some us → RepWs G H Y α ws vs → vs = us ∧ vs.all flatV = true
  | [], vs, us, e, h => by cases e; unfold RepWs at h; subst h; exact ⟨rfl, rfl⟩
  | w :: ws, vs, us, e, h => by
    rw [mapO_cons, Option.bind_eq_some_iff] at e
    obtain ⟨y, e1, e⟩ := e
    rw [Option.bind_eq_some_iff] at e
    obtain ⟨ys, e2, e⟩ := e
    cases e
    unfold RepWs at h
    obtain ⟨v, r, rfl, h1, h2⟩ := h
    obtain ⟨rfl, f1⟩ := flatD_at e1 h1
    obtain ⟨rfl, f2⟩ := flatDs_at e2 h2
    exact ⟨rfl, by rw [List.all_cons, f1, f2]; rfl⟩
def qIndex : Pr := pureN fun S ws => match ws with
  | [x, y] => (match lstOf S x, flatD y with
    | some l, some v => (match mapO flatD l with
      | some vs => (vs.findIdx? fun z => eqV z v).map fun j => .d (.int (j : Nat))
      | none => none)
    | _, _ => none)
  | _ => none
theorem mq_index : MtQ X "list.index" qIndex := mq_pure mt_index fun F α S H w ws v vs w' Q r h hs e k => by
  split at e
  · rename_i x y e0
    cases e0
    split at e
    · rename_i l u el eu
      split at e
      · rename_i us eus
        rw [Option.map_eq_some_iff] at e
        obtain ⟨j, ej, rfl⟩ := e
        obtain ⟨x, rfl⟩ : ∃ x, vs = [x] := by
          have := hs.length
          match vs, this with
          | [x], _ => exact ⟨x, rfl⟩
        obtain ⟨w1, e1, h1⟩ := hs.one
        cases e1
        obtain ⟨a, zs, rfl, h2, h3⟩ := lstOf_at r h el
        obtain ⟨rfl, f1⟩ := flatD_at eu h1
        obtain ⟨rfl, f2⟩ := flatDs_at eus h3
        rw [List.findIdx?_eq_some_iff_getElem] at ej
        obtain ⟨hj, hz, hno⟩ := ej
        refine ⟨a, zs, x, j, zs[j], rfl, rfl, SqL.of h2, f1, f2, by simp [hj], hz, fun m z hm em => ?_, k H _ (fun _ _ e => e) (rw_d (rep_int _))⟩
        have hml : m < zs.length := by omega
        have := hno m hm
        have e3 : zs[m]? = some zs[m] := by simp [hml]
        rw [e3] at em
        cases em
        simpa using this
      · cases e
    · cases e
  · cases e
theorem RepWs.drop {G : Gx} {H : Hp} {Y : Addr → Prop} {α : List Addr} : ∀ (n : Nat) {ws : List W} {vs : List V}, RepWs G H Y α ws vs → RepWs G H Y α (ws.drop n) (vs.drop n)
  | 0, ws, vs, h => h
  | n + 1, [], vs, h => by unfold RepWs at h; subst h; simp; unfold RepWs; rfl
  | n + 1, w :: ws, vs, h => by
    unfold RepWs at h
    obtain ⟨v, r, rfl, h1, h2⟩ := h
    simpa using RepWs.drop n h2
theorem RepWs.take {G : Gx} {H : Hp} {Y : Addr → Prop} {α : List Addr} : ∀ (n : Nat) {ws : List W} {vs : List V}, RepWs G H Y α ws vs → RepWs G H Y α (ws.take n) (vs.take n)
  | 0, ws, vs, h => by simp; unfold RepWs; rfl
  | n + 1, [], vs, h => by unfold RepWs at h; subst h; simp; unfold RepWs; rfl
  | n + 1, w :: ws, vs, h => by
    unfold RepWs at h
    obtain ⟨v, r, rfl, h1, h2⟩ := h
    exact RepWs.mkC h1 (RepWs.take n h2)
abbrev MO := Sl → Sto → Res (Option Int)
def oS (m : ME) : MO := fun τ S => (m τ S).bind fun w S1 => match w with
  | .d (.int i) => .ok (some i) S1
  | _ => .no
theorem PO.imp {e : Option Expr} {t t' : TO} (h : PO X e t) (k : ∀ σ H Q, t' σ H Q → t σ H Q) : PO X e t' := ⟨fun pins s σ H Q I q => h.run pins s σ H Q I (k σ H Q q)⟩
end
end Mi
set_option Elab.async false
set_option linter.all false
set_option maxRecDepth 100000
set_option maxHeartbeats 4000000
namespace Mi
open PySem PySem.Spec PyProof.Rows L2 He Wl
section
variable {X : Cx} {Wx : WX} {a b c e o : Expr} {es : List Expr} {pos p : Pos} {m ma mb mc mo : ME} {mr : MA}
end
end Mi
set_option Elab.async false
set_option linter.all false
set_option maxRecDepth 100000
set_option maxHeartbeats 4000000
namespace Mi
open PySem PySem.Spec PyProof.Rows L2 He Wl
theorem nrm_rat {p q : Int} (h : q ≠ 0) : (Rat.divInt p q).num = (nrm p q).1 ∧ ((Rat.divInt p q).den : Int) = (nrm p q).2 := by
  have hp := nrm_pos (p := p) h
  have hg := nrm_gcd (p := p) h
  have e : Rat.divInt p q = ⟨(nrm p q).1, (nrm p q).2.toNat, by omega, by
      show Nat.gcd (nrm p q).1.natAbs (nrm p q).2.toNat = 1
      have : (nrm p q).2.natAbs = (nrm p q).2.toNat := by omega
      rw [← this]; exact hg⟩ := by
    rw [Rat.mk_eq_divInt, Rat.divInt_eq_divInt_iff h (by omega)]
    rw [show (((nrm p q).2.toNat : Nat) : Int) = (nrm p q).2 from by omega]
    have e1 := nrm_top p q
    have e2 := nrm_bot p q
    calc p * (nrm p q).2 = ((nrm p q).1 * gsg p q) * (nrm p q).2 := by rw [e1]
      _ = (nrm p q).1 * ((nrm p q).2 * gsg p q) := by rw [Int.mul_assoc, Int.mul_comm (gsg p q)]
      _ = (nrm p q).1 * q := by rw [e2]
  rw [e]
  exact ⟨rfl, by show (((nrm p q).2.toNat : Nat) : Int) = (nrm p q).2; omega⟩
def numD : D → Option Rat
  | .int i => some (i : Rat)
  | .rat r => some r
  | _ => none
def intD : D → Bool
  | .int _ => true
  | _ => false
def bdB (n : Nat) (x : Int) : Bool := decide (x.natAbs < 2 ^ n)
def ratAt (i : Nat) (r : Rat) : Int := if i = 0 then (r.den : Int) else r.num
def sltK (i : Nat) (w : W) (S1 : Sto) : Res W := match w with
  | .d (.rat r) => .ok (.d (.int (ratAt i r))) S1
  | _ => .no
def sltM (i : Nat) (o : ME) : ME := fun τ S => (o τ S).bind fun w S1 => sltK i w S1
section
variable {X : Cx} {Wx : WX} {a b c e o : Expr} {es : List Expr} {pos apos p : Pos} {m mo : ME} {mr : MA} {k : Nat} {f C pp g : Addr} {sp : Sp} {kk : MF} {x mn fn : Str} {i : Nat} {cs : List Str}
theorem me_slt (cl : SlX.SCls X.K (ga X.K ratS)) (sl : SlX.Slot1 X.K (ga X.K ratS) fn pp i) (hi : i = 0 ∨ i = 1) (ho : EE X Wx o mo) (hb : attributeBase o fn X.env (eval o X.env) = eval o X.env := by rfl) : EE X Wx (.Attribute o fn pos) (sltM i mo) :=
  PE.imp (SlX.pe_sl ho hb) fun σ H Q h => by
    refine tM_then (R1 := rW X.gx) (k := fun w τ S1 => sltK i w S1) h fun v H1 ⟨F, α, S, τ, b1, r, s, q1, f⟩ => ?_
    unfold sltK at f
    dsimp only at f
    split at f
    · rename_i q
      unfold rW RepW Rep at q1
      obtain ⟨a, dx, e1, _, _, h1⟩ := q1
      refine ⟨a, _, dx, pp, _, i, .int (ratAt i q), e1, h1, cl, sl, ?_, f α H1 _ r Stp.refl (rw_d (rep_int _))⟩
      rcases hi with rfl | rfl <;> rfl
    · exact f.elim
theorem nvr : Passes (L2.CX X.prog X.w) X E0 := fun _ _ _ _ _ _ _ h => (cx_never h).elim
def qOf (g : Sto → List W → Bool) (m : MF) : Pr := fun S ws => if g S ws = true then (match callP m ws S with
  | .ok w S' => some (w, S')
  | _ => none) else none
theorem qOf_sp {G : Gx} {g : Sto → List W → Bool} {m : MF} {vs : List V} {H : Hp} {Q : VK} {E : XK} (h : rQ G (qOf g m) vs H Q) : ∃ F α S ws, Rel G F α S H ∧ RepWs G H (XX F α S) α ws vs ∧ g S ws = true ∧ spM G m vs H Q E := by
  obtain ⟨F, α, S, ws, w, S', r, hw, e, f⟩ := h
  unfold qOf at e
  split at e
  · rename_i hg
    split at e
    · rename_i w' S'' ec
      cases e
      exact ⟨F, α, S, ws, r, hw, hg, callP_ok r hw (by rw [ec]; exact f)⟩
    · cases e
  · cases e
def gR2 (_ : Sto) : List W → Bool
  | [.d (.rat _), .d (.int _)] => true
  | [.d (.rat _), .d (.rat _)] => true
  | _ => false
def gR1 (_ : Sto) : List W → Bool
  | [.d (.rat _)] => true
  | _ => false
def gRx (cs : List Str) (S : Sto) : List W → Bool
  | [.d (.rat _), y] => (match tgW S y with
    | some t => okT cs t
    | none => false)
  | _ => false
theorem rep_rat {G : Gx} {H : Hp} {Y : Addr → Prop} {r : Rat} {v : V} (h : Rep G H Y (.rat r) v) : ∃ a dx, v = .ref a ∧ SlX.Slt H a (ga G.K ratS) dx [some (.int r.den), some (.int r.num)] := by
  unfold Rep at h
  obtain ⟨a, dx, e, _, _, h⟩ := h
  exact ⟨a, dx, e, h⟩
theorem gR2_at {G : Gx} {H : Hp} {Y : Addr → Prop} {α : List Addr} {ws : List W} {u v : V} (h : RepWs G H Y α ws [u, v]) {S : Sto} (g : gR2 S ws = true) : ∃ a dx vs, u = .ref a ∧ SlX.Slt H a (ga G.K ratS) dx vs ∧ NumLike (ga G.K ratS) v H := by
  obtain ⟨x, y, rfl, h1, h2⟩ := h.two
  unfold gR2 at g
  split at g
  · rename_i q j e
    cases e
    unfold RepW at h1 h2
    obtain ⟨a, dx, e1, s1⟩ := rep_rat h1
    unfold Rep at h2
    exact ⟨a, dx, _, e1, s1, .inl ⟨_, h2⟩⟩
  · rename_i q j e
    cases e
    unfold RepW at h1 h2
    obtain ⟨a, dx, e1, s1⟩ := rep_rat h1
    obtain ⟨b, dy, e2, s2⟩ := rep_rat h2
    exact ⟨a, dx, _, e1, s1, .inr ⟨b, dy, _, e2, s2⟩⟩
  · cases g
theorem os_binR {op : Operator} {nm : String} {m : MF} (hi : op.info.2 = nm) (O : OwnOp X.K (ga X.K ratS) nm f) (F : FnR X.prog X.w X.K X.mg X.base (L2.CX X.prog X.w) k f (spM X.gx m)) (hr : Room k X.A) : OpS X (binaryOp op) (qOf gR2 m) := by
  intro pins s σ H x y v u Q I rx ry h
  refine op_binSl (E := E0) hi O F hr nvr pins s σ H x y v u Q I rx ry ?_
  obtain ⟨F', α, S, ws, r, hw, hg, q⟩ := qOf_sp (E := E0) h
  obtain ⟨a, dx, vs, e1, h1, h2⟩ := gR2_at hw hg
  exact ⟨a, dx, vs, e1, h1, h2, q⟩
theorem gR1_at {G : Gx} {H : Hp} {Y : Addr → Prop} {α : List Addr} {ws : List W} {u : V} (h : RepWs G H Y α ws [u]) {S : Sto} (g : gR1 S ws = true) : ∃ a dx vs, u = .ref a ∧ SlX.Slt H a (ga G.K ratS) dx vs := by
  obtain ⟨x, rfl, h1⟩ := h.one
  unfold gR1 at g
  split at g
  · rename_i q e
    cases e
    unfold RepW at h1
    obtain ⟨a, dx, e1, s1⟩ := rep_rat h1
    exact ⟨a, dx, _, e1, s1⟩
  · cases g
theorem kf_notFirst {K : PySem.W.Frag} (Fc : KF K cs) {t : Tg} (ok : okT cs t = true) : PySem.W.notFirst K (ga K ratS) (t.v K) = true := by
  unfold PySem.W.notFirst
  rw [Bool.or_eq_true]
  have e := isT_kit Fc ok (show okT cs (.c ratS) = true by simp [okT])
  by_cases q : (t.v K == Value.ref (ga K ratS)) = true
  · exact .inl q
  · refine .inr ?_
    unfold PySem.W.kitOne at e
    rw [show (Tg.c ratS).v K = Value.ref (ga K ratS) from rfl, if_neg q] at e
    unfold PySem.W.kitCls at e
    dsimp only at e
    split at e
    · rw [e]
      cases t with
      | b n => rfl
      | c y =>
        show ((some (y == ratS) : Option Bool) == some false) = true
        have : y ≠ ratS := fun z => q (by subst z; exact beq_self_eq_true _)
        simp [this]
    · cases e
theorem gRx_at (Fc : KF X.K cs) {pins : List (Addr × Obj)} {σ : L2.St} {s : Shared} {H : Hp} {F : Addr → Prop} {S : Sto} {α : List Addr} {ws : List W} {x y : V} {u : Value} (I : Inv X pins σ H s) (r : Rel X.gx F α S H) (h : RepWs X.gx H (XX F α S) α ws [x, y]) (ru : RelV y u) (g : gRx cs S ws = true) :
    ∃ a dx vs t, x = .ref a ∧ SlX.Slt H a (ga X.K ratS) dx vs ∧ PySem.W.Looks (model X.prog X.w) s.heap (typeOf u) t ∧ PySem.W.notFirst X.K (ga X.K ratS) t = true := by
  obtain ⟨w1, w2, rfl, h1, h2⟩ := h.two
  unfold gRx at g
  split at g
  · rename_i q w e
    cases e
    split at g
    · rename_i t et
      unfold RepW at h1
      obtain ⟨a, dx, e1, s1⟩ := rep_rat h1
      obtain ⟨P, Z, p, _⟩ := kit_w Fc I r h2 ru et g
      exact ⟨a, dx, _, _, e1, s1, Z.ty _ _ I.kIn p, kf_notFirst Fc g⟩
    · cases g
  · cases g
theorem os_eqR (Fc : KF X.K cs) {m : MF} (M : Meth X.K (ga X.K ratS) "__eq__" f) (F : FnR X.prog X.w X.K X.mg X.base (L2.CX X.prog X.w) k f (spM X.gx m)) (hr : Room k X.A) : OpS X (compareOp .Eq) (qOf (gRx cs) m) := by
  intro pins s σ H x y v u Q I rx ry h
  obtain ⟨F', α, S, ws, r, hw, hg, q⟩ := qOf_sp (E := E0) h
  obtain ⟨a, dx, vs, t, rfl, ha, lk, nf⟩ := gRx_at Fc I r hw ry hg
  cases (show v = Value.ref a from rx)
  obtain ⟨sl, od, _, J, _⟩ := SlX.slt_inst I ha
  obtain ⟨m, hF⟩ := I.fr
  show wpAny (model X.prog X.w) X.A (richCompare .Eq (.ref a) u) (EP X pins σ Q) X.xe s
  refine PySem.W.cmp_K (op := .Eq) (tb := t) hr.units0 hF I.ok.mod.kin J lk nf M.at_ M.fn ?_
  refine wpAny_mono (wpAny_call (run_fnR (us := [.ref a, u]) (vs := [.ref a, y]) F hr nvr I (.cons rfl (.cons ry .nil)) q)) (fun w s' z => ?_) fun _ _ x => x
  obtain ⟨z', H', I', rz, qz⟩ := z
  exact SlX.cmpback rz ⟨z', H', I', rz, qz⟩
def qOfN (g : Sto → List W → Bool) (m : MF) : Pr := fun S ws => if g S ws = true then (match callP m ws S with
  | .ok (.d (.bl b)) S' => some (.d (.bl (!b)), S')
  | _ => none) else none
theorem os_neR (Fc : KF X.K cs) {m : MF} (hne : PySem.W.findIn X.K (.ref (ga X.K ratS)) "__ne__" = some (some (.builtin "object.__ne__"))) (M : Meth X.K (ga X.K ratS) "__eq__" f) (F : FnR X.prog X.w X.K X.mg X.base (L2.CX X.prog X.w) k f (spM X.gx m)) (hr : Room (k + 1) X.A) :
    OpS X (compareOp .NotEq) (qOfN (gRx cs) m) := by
  intro pins s σ H x y v u Q I rx ry h
  obtain ⟨F', α, S, ws, w, S', r, hw, e, f'⟩ := h
  unfold qOfN at e
  split at e
  case isFalse => cases e
  rename_i hg
  split at e
  case h_2 => cases e
  rename_i b S'' ec
  cases e
  have q : spM X.gx m [x, y] H (fun z H' => ∃ r, z = .bl r ∧ Q (.bl (!r)) H') E0 := callP_ok r hw (by
    rw [ec]
    intro α' H' v r' s' h'
    unfold rW RepW Rep at h'
    exact ⟨b, h', f' α' H' _ r' s' (rw_d (rep_bl _))⟩)
  obtain ⟨a, dx, vs, t, rfl, ha, lk, nf⟩ := gRx_at Fc I r hw ry hg
  cases (show v = Value.ref a from rx)
  obtain ⟨sl, od, _, J, _⟩ := SlX.slt_inst I ha
  obtain ⟨m, hF⟩ := I.fr
  show wpAny (model X.prog X.w) X.A (richCompare .NotEq (.ref a) u) (EP X pins σ Q) X.xe s
  refine ne_K (tb := t) (hu_of hr) hF I.ok.mod.kin J lk nf hne Fc.ri.cm M.at_ M.fn ?_
  refine wpAny_mono (wpAny_call (SlX.run_at (us := [.ref a, u]) (ws := [.ref a, y]) F hr.in1 I.env0.in1 nvr I (.cons rfl (.cons ry .nil)) q)) (fun w s' z => ?_) fun _ _ x => x
  obtain ⟨z', H', I', rz, r, rfl, qz⟩ := z
  exact ⟨r, rz, .bl (!r), H', I', rfl, qz⟩
def prM (m : MF) (o : ME) : ME := fun τ S => (o τ S).bind fun w S1 => run (qOf gR1 m) [w] S1
theorem me_prp (cl : SlX.SCls X.K (ga X.K ratS)) (hp : PropSl X.K (ga X.K ratS) fn pp g) {m : MF} (F : FnR X.prog X.w X.K X.mg X.base (L2.CX X.prog X.w) k g (spM X.gx m)) (hr : Room (k + 1) X.A) (ho : EE X Wx o mo)
    (hb : attributeBase o fn X.env (eval o X.env) = eval o X.env := by rfl) : EE X Wx (.Attribute o fn pos) (prM m mo) := PE.imp (pe_prp cl hp F hr ho hb) fun σ H Q h => by
  refine tM_then (R1 := rW X.gx) (k := fun w τ S1 => run (qOf gR1 m) [w] S1) h fun v H1 ⟨F', α, S, τ, b1, r, sl, q1, f⟩ => ?_
  obtain ⟨F', α, S, ws, r, hw, hg, q⟩ := qOf_sp (E := E0) (rQ_of r (RepWs.mk1 q1) f)
  obtain ⟨a, dx, vs, e1, h1⟩ := gR1_at hw hg
  subst e1
  exact ⟨a, dx, vs, rfl, h1, q⟩
def msM (kk : MF) (o : ME) (mr : MA) : ME := fun τ S => (o τ S).bind fun w S1 => match w with
  | .d (.rat r) => (mr τ S1).bind fun ws S2 => kk (.d (.rat r) :: ws) S2
  | _ => .no
theorem tMs_way (w : Way X.gx sp kk) {σ : L2.St} {H : Hp} {Q : VK} (h : tE X Wx (msM kk mo mr) σ H Q) : tE X Wx mo σ H fun x H1 => ∃ a dx vs, x = .ref a ∧ SlX.Slt H1 a (ga X.K ratS) dx vs ∧ tAr X Wx mr σ H1 fun us H2 => sp (x :: us) H2 Q fun c d H' => Wx c d σ H' := by
  refine tM_then (R1 := rW X.gx) (k := fun (w : W) τ S1 => match w with
    | .d (.rat r) => (mr τ S1).bind fun ws S2 => kk (.d (.rat r) :: ws) S2
    | _ => .no) h fun v H1 ⟨F, α, S, τ, b1, r, sl, q1, f⟩ => ?_
  dsimp only at f
  split at f
  · rename_i q
    have q2 := q1
    unfold rW RepW at q2
    obtain ⟨a, dx, e1, h1⟩ := rep_rat q2
    refine ⟨a, dx, _, e1, h1, ?_⟩
    have hk : tK (rW X.gx) (rW X.gx) X.gx Wx (fun w τ S1 => (mr τ S1).bind fun ws S2 => kk (w :: ws) S2) v σ H1 Q := ⟨F, α, S, τ, _, r, sl, q1, f⟩
    exact tK_then (R2 := rWs X.gx) (k := fun p _ S2 => kk (p.1 :: p.2) S2) (stay_W _) hk fun vs H2 ⟨F, α, S, τ, ⟨b1, b2⟩, r, sl, ⟨q1, q2⟩, f⟩ => w F α S H2 (b1 :: b2) (v :: vs) Q _ r (RepWs.mkC q1 q2) f
  · exact f.elim
theorem me_methS {pl : Sem Bool} (w : Way X.gx sp kk) (ho : EE X Wx o mo) (cl : SlX.SCls X.K (ga X.K ratS)) (hm : Meth X.K (ga X.K ratS) mn f) (F : FnR X.prog X.w X.K X.mg X.base (L2.CX X.prog X.w) k f sp) (hr : Room k X.A) (tk : Takes X Wx) (ha : EA X Wx (e :: es) mr)
    (hst : starEach (e :: es) X.env = (false, eval e X.env) :: starEach es X.env := by rfl) (hpl : (backTo pos (starEach es X.env)).any (·.1) = false := by rfl)
    (ht : eval (.Call (.Attribute o mn apos) (e :: es) [] pos) X.env = (do
      let ov ← eval o X.env
      standAt apos.atName
      let (f, first) ← holding [ov] (getMethod ov mn pl)
      callWith pos f first (backTo pos (starEach (e :: es) X.env)) (backToKw pos (keywordEach [] X.env))) := by rfl) :
    EE X Wx (.Call (.Attribute o mn apos) (e :: es) [] pos) (msM kk mo mr) := by
  refine ⟨fun pins s σ H Q I h => ?_⟩
  refine PySem.W.methodCall_KW (pl := pl) (thn (ho.run pins s σ H _ I (tMs_way w h)) fun u s1 ⟨x, H1, I1, rx, a, dx, vs, ex, ea, q⟩ => ?_) ht
  subst ex
  obtain rfl : u = Value.ref a := rx
  refine SlX.getmethsl_ok I1 ea cl hm ?_
  refine PySem.W.callWith_K (first := [.ref a]) (h₀ := X.base) I.ok.mod.kin hm.kp (thn (ha.run pos pins s1 σ H1 _ I1 q) fun us s2 ⟨vs, H2, I2, r, q2⟩ => ⟨I2.kIn, ?_⟩) hst hpl
  exact wpAny_call (run_T (us := .ref a :: us) (vs := .ref a :: vs) F hr tk I2 (.cons rfl r) q2)
theorem me_methS0 {pl : Sem Bool} (w : Way X.gx sp kk) (ho : EE X Wx o mo) (cl : SlX.SCls X.K (ga X.K ratS)) (hm : Meth X.K (ga X.K ratS) mn f) (F : FnR X.prog X.w X.K X.mg X.base (L2.CX X.prog X.w) k f sp) (hr : Room k X.A) (tk : Takes X Wx)
    (ht : eval (.Call (.Attribute o mn apos) [] [] pos) X.env = (do
      let ov ← eval o X.env
      standAt apos.atName
      let (f, first) ← holding [ov] (getMethod ov mn pl)
      callWith pos f first (backTo pos (starEach [] X.env)) (backToKw pos (keywordEach [] X.env))) := by rfl) :
    EE X Wx (.Call (.Attribute o mn apos) [] [] pos) (msM kk mo aN) := by
  refine ⟨fun pins s σ H Q I h => ?_⟩
  refine PySem.W.methodCall_KW (pl := pl) (thn (ho.run pins s σ H _ I (tMs_way w h)) fun u s1 ⟨x, H1, I1, rx, a, dx, vs, ex, ea, q⟩ => ?_) ht
  subst ex
  obtain rfl : u = Value.ref a := rx
  refine SlX.getmethsl_ok I1 ea cl hm ?_
  obtain ⟨F1, α1, S1, τ1, r1, sl1, f1⟩ := q
  refine PySem.W.callWith_K0 (first := [.ref a]) I1.kIn hm.kp (wpAny_call (run_T (us := [.ref a]) (vs := [.ref a]) F hr tk I1 (.cons rfl .nil) ?_))
  exact f1 α1 H1 [] r1 Stp.refl (by show RepWs _ _ _ _ [] []; unfold RepWs; rfl)
def okD (cs : List Str) (x : D) : Bool := match tgD x with
  | some t => okT cs t
  | none => false
theorem spM_one {G : Gx} {m : MF} {x y : D} {v : V} {H : Hp} {Y : Addr → Prop} {Q : VK} {E : XK} (hY : ∀ a, Y a → ∃ o, H a = some o) (hm : m [.d x] [] = .ok (.d y) []) (hx : Rep G H Y x v) (k : ∀ H' v', Same H H' → Rep G H' Y y v' → Q v' H') : spM G m [v] H Q E := by
  refine ⟨Y, [], [], [.d x], rel_nil hY, RepWs.mk1 (rw_d (hx.less fun a z => z.elim id fun z => absurd z (own_nil a))), ?_⟩
  rw [hm]
  intro α' H' v' r' s' h'
  unfold rW RepW at h'
  exact k H' v' (fun a o e => s'.keep a o e (own_nil a)) (h'.less fun a z => .inl z)
theorem spM_two {G : Gx} {m : MF} {x x' y : D} {v v2 : V} {H : Hp} {Y : Addr → Prop} {Q : VK} {E : XK} (hY : ∀ a, Y a → ∃ o, H a = some o) (hm : m [.d x, .d x'] [] = .ok (.d y) []) (hx : Rep G H Y x v) (hx2 : Rep G H Y x' v2) (k : ∀ H' v', Same H H' → Rep G H' Y y v' → Q v' H') : spM G m [v, v2] H Q E := by
  refine ⟨Y, [], [], [.d x, .d x'], rel_nil hY, RepWs.mk2 (rw_d (hx.less fun a z => z.elim id fun z => absurd z (own_nil a))) (rw_d (hx2.less fun a z => z.elim id fun z => absurd z (own_nil a))), ?_⟩
  rw [hm]
  intro α' H' v' r' s' h'
  unfold rW RepW at h'
  exact k H' v' (fun a o e => s'.keep a o e (own_nil a)) (h'.less fun a z => .inl z)
def exV : List Str := ["value"]
def spInitR (G : Gx) (cs : List Str) : Sp := fun vs H Q E => ∃ a dx v u x y, vs = [.ref a, v, u] ∧ H a = some (.ins (ga G.K ratS) dx []) ∧ H dx = some (.own a) ∧ dx ≠ a ∧ Rep G H (fun b => b = a ∨ b = dx) x v ∧ Rep G H (fun b => b = a ∨ b = dx) y u ∧
  okD cs x = true ∧ okD cs y = true ∧
  (intD x = false → ∀ d H', Same H H' → H d = none → H' d = some (.xd [("value", v)]) → E (.ref (ga G.K "InvalidNumber")) (some d) H') ∧
  (intD x = true → intD y = false → ∀ d H', Same H H' → H d = none → H' d = some (.xd [("value", u)]) → E (.ref (ga G.K "InvalidNumber")) (some d) H') ∧
  (∀ p q, x = .int p → y = .int q → q = 0 → ∀ H', Same H H' → E (.ref (ga G.K "ByZero")) none H') ∧
  (∀ p q, x = .int p → y = .int q → q ≠ 0 → Bd 8000 q ∧ ∀ H', (∀ b o, H b = some o → b ≠ a → b ≠ dx → H' b = some o) → SlX.Slt H' a (ga G.K ratS) dx [some (.int (nrm p q).2), some (.int (nrm p q).1)] → Q .non H')
def newR (cs : List Str) : MF := fun ws S => match ws with
  | [.d x, .d y] => if (okD cs x && okD cs y) = true then (match x, y with
    | .int p, .int q => if q = 0 then .ex "ByZero" [] [] S else if bdB 8000 q = true then .ok (.d (.rat (Rat.divInt p q))) S else .no
    | .int _, y => .ex "InvalidNumber" exV [.d y] S
    | x, _ => .ex "InvalidNumber" exV [.d x] S) else .no
  | _ => .no
theorem wayNR {G : Gx} : WayN G (ga G.K ratS) (spInitR G cs) (newR cs) := by
  intro F α S H ws vs Q E r hw f a dx ha hd ne
  unfold newR at f
  split at f
  case h_2 => exact f.elim
  rename_i x y
  split at f
  case isFalse => exact f.elim
  rename_i ht
  rw [Bool.and_eq_true] at ht
  unfold RepWs at hw
  obtain ⟨v, _, rfl, h1, hw⟩ := hw
  unfold RepWs at hw
  obtain ⟨u, _, rfl, h2, hw⟩ := hw
  unfold RepWs at hw
  subst hw
  unfold RepW at h1 h2
  have sm : Same H (upd (upd H dx (.own a)) a (.ins (ga G.K ratS) dx [])) := fun b o eb => by
    rw [upd_ne (ne_of_none eb ha), upd_ne (ne_of_none eb hd)]; exact eb
  have st : Stay (XX F α S) (fun b => b = a ∨ b = dx) H (upd (upd H dx (.own a)) a (.ins (ga G.K ratS) dx [])) := ⟨fun b o e _ => sm b o e, fun b o e z => by
    rcases z with rfl | rfl
    · rw [ha] at e; cases e
    · rw [hd] at e; cases e⟩
  have na := r.fresh ha
  have nd := r.fresh hd
  have exc : ∀ {z : D} {t : V}, Rep G H (XX F α S) z t → Fin (rW G) G F α S H Q E (.ex "InvalidNumber" exV [.d z] S) → ∀ d H', Same (upd (upd H dx (.own a)) a (.ins (ga G.K ratS) dx [])) H' → (upd (upd H dx (.own a)) a (.ins (ga G.K ratS) dx [])) d = none → H' d = some (.xd [("value", t)]) → E (.ref (ga G.K "InvalidNumber")) (some d) H' := by
    intro z t hz f d H' s' nd' e
    have s2 := sm.trans s'
    refine f α H' (some d) (r.same s2) (Stp.same s2) (.inr ⟨d, [t], rfl, fun q => ?_, e, rfl, ?_⟩)
    · have : H d = none := by
        cases q : H d with
        | none => rfl
        | some o => rw [sm d o q] at nd'; cases nd'
      exact r.fresh this q
    · exact RepWs.mk1 (rw_d (hz.stay (Stp.same (α := α) (S := S) s2).stay))
  refine ⟨a, dx, v, u, x, y, rfl, upd_same, by rw [upd_ne ne, upd_same], ne, h1.stay st, h2.stay st, ht.1, ht.2, fun hx => ?_, fun hx hy => ?_, fun p q ex ey hq H' s' => ?_, fun p q ex ey hq => ?_⟩
  · refine exc h1 ?_
    split at f
    · cases hx
    · cases hx
    · exact f
  · refine exc h2 ?_
    split at f
    · cases hy
    · exact f
    · rename_i z _
      cases x <;> first | (cases hx; done) | (exact absurd rfl (z _))
  · subst ex ey hq
    dsimp only at f
    rw [if_pos rfl] at f
    have s2 := sm.trans s'
    exact f α H' none (r.same s2) (Stp.same s2) (.inl ⟨rfl, rfl, rfl⟩)
  · subst ex ey
    dsimp only at f
    rw [if_neg hq] at f
    split at f
    case isFalse => exact f.elim
    rename_i hb
    refine ⟨(of_decide_eq_true hb : q.natAbs < 2 ^ 8000), fun H' k sl => ⟨rfl, ?_⟩⟩
    have s2 : Same H H' := fun b o e => k b o (sm b o e) (ne_of_none e ha) (ne_of_none e hd)
    refine f α H' _ (r.same s2) (Stp.same s2) (rw_d ?_)
    unfold Rep
    obtain ⟨e1, e2⟩ := nrm_rat (p := p) hq
    exact ⟨a, dx, rfl, na, nd, by rw [e1, e2]; exact sl⟩
def newR1 (cs : List Str) : MF := fun ws S => newR cs (ws ++ [.d (.int 1)]) S
theorem wayNR1 {G : Gx} : WayN G (ga G.K ratS) (fun vs H Q E => spInitR G cs (vs ++ [.int 1]) H Q E) (newR1 cs) := fun F α S H ws vs Q E r hw f a dx ha hd ne => by
  have : RepWs G H (XX F α S) α (ws ++ [.d (.int 1)]) (vs ++ [.int 1]) := by
    clear f r
    induction ws generalizing vs with
    | nil => unfold RepWs at hw; subst hw; exact RepWs.mk1 (rw_d (rep_int _))
    | cons w ws ih =>
      unfold RepWs at hw
      obtain ⟨v, r, rfl, h1, h2⟩ := hw
      exact RepWs.mkC h1 (ih _ h2)
  exact wayNR F α S H _ _ Q E r this f a dx ha hd ne
end
end Mi
set_option Elab.async false
set_option linter.all false
set_option maxRecDepth 100000
set_option maxHeartbeats 4000000
namespace Mi
open PySem PySem.Spec PyProof.Rows L2 He Wl
theorem StpF.trans {F : Addr → Prop} {α α' α'' : List Addr} {S S' S'' : Sto} {H H' H'' : Hp} (a : StpF F α S H α' S' H') (b : StpF F α' S' H' α'' S'' H'') : StpF F α S H α'' S'' H'' where
  pre := a.pre.trans b.pre
  keep := fun x o h f n => b.keep x o (a.keep x o h f n) f fun z => n (a.less x o h f z)
  less := fun x o h f z => Classical.byContradiction fun n => n (a.less x o h f (b.less x o (a.keep x o h f n) f z))
theorem StpF.stay {F : Addr → Prop} {α α' : List Addr} {S S' : Sto} {H H' : Hp} (s : StpF F α S H α' S' H') : Stay (XX F α S) (XX F α' S') H H' where
  keep := fun a o h n => s.keep a o h (fun z => n (.inl z)) fun z => n (.inr z)
  less := fun a o h z => z.elim .inl fun z => Classical.or_iff_not_imp_left.mpr fun f => s.less a o h f z
theorem SlotsR.stpF {G : Gx} {F : Addr → Prop} {α α' : List Addr} {S S' : Sto} {H H' : Hp} {τ : Sl} {σ : L2.St} (s : StpF F α S H α' S' H') (h : SlotsR G H (XX F α S) α τ σ) : SlotsR G H' (XX F α' S') α' τ σ :=
  ⟨h.len, fun i w e => let ⟨v, e1, r⟩ := h.at_ i w e; ⟨v, e1, r.stay s.stay s.pre⟩⟩
def compC (g : MG) (t : MT) (e : ME) (τ : Sl) : List W → List D → Sto → Option (List D × Sto)
  | [], acc, S => some (acc, S)
  | w :: ws, acc, S => match g w τ S with
    | none => none
    | some (τ1, S1) => match t τ1 S1 with
      | .ok true S2 => (match e τ1 S2 with
        | .ok (.d x) S3 => if acc.length < 1000000 then compC g t e τ ws (acc ++ [x]) S3 else none
        | _ => none)
      | .ok false S2 => compC g t e τ ws acc S2
      | _ => none
def compO (g : MG) (t : MT) (mi1 : MA) (vs1 : List Nat) (g1 : MG) (t1 : MT) (e : ME) (τ : Sl) : List W → List D → Sto → Option (List D × Sto)
  | [], acc, S => some (acc, S)
  | w :: ws, acc, S => match g w τ S with
    | none => none
    | some (τ1, S1) => match t τ1 S1 with
      | .ok true S2 => (match mi1 τ1 S2 with
        | .ok ws1 S3 => (match compC g1 t1 e (wipeT τ1 vs1) ws1 acc S3 with
          | some (acc', S4) => compO g t mi1 vs1 g1 t1 e τ ws acc' S4
          | none => none)
        | _ => none)
      | .ok false S2 => compO g t mi1 vs1 g1 t1 e τ ws acc S2
      | _ => none
def lc2M (o : Bool) (vs vs1 : List Nat) (mi : MA) (g : MG) (t : MT) (mi1 : MA) (g1 : MG) (t1 : MT) (e : ME) : ME := fun τ S => (mi τ S).bind fun ws S1 => match compO g t mi1 vs1 g1 t1 e (wipeT τ vs) ws [] S1 with
  | some (ds, S2) => compEnd o ds S2
  | none => .no
theorem wipe_more {σ σ4 : L2.St} {us vs : List Nat} (hu : ∀ i ∈ us, i ∈ vs) (wp : wipe σ4 us = wipe σ us) : wipe σ4 vs = wipe σ vs := by
  apply List.ext_getElem?
  intro j
  have e1 := congrArg (fun l : L2.St => l[j]?) wp
  have hl : σ4.length = σ.length := by
    have := congrArg List.length wp
    rwa [wipe_length, wipe_length] at this
  simp only [wipe_get] at e1
  rw [wipe_get, wipe_get, hl]
  by_cases hj : j ∈ vs
  · simp [hj]
  · have hj' : j ∉ us := fun z => hj (hu j z)
    simp only [hj', if_false] at e1
    simp only [hj, if_false]
    exact e1
theorem compC_of {X : Cx} {G : Gx} (hG : X.gx = G) {us1 vs1 : List Nat} {F : Addr → Prop} {α1 α2 : List Addr} {S1 S2 : Sto} {H1 H2 : Hp} {d : Addr} {g : MG} {t : MT} {e : ME} {τ : Sl} {σ : L2.St} {ws : List W} {acc ds : List D} {Sz : Sto} {J : It} {Nx : Hp → Prop}
    (hu : ∀ i ∈ us1, i ∈ vs1) (nD : H1 d = none) (ca : LcAt G F α1 S1 H1 d α2 S2 H2 acc) (sl : SlotsR G H2 (XX (fun a => F a ∨ a = d) α2 S2) α2 τ σ) (hy : Yields G (fun a => F a ∨ a = d) α2 S2 H2 J ws) (ec : compC g t e (wipeT τ vs1) ws acc S2 = some (ds, Sz))
    (nx : ∀ α H, LcAt G F α1 S1 H1 d α Sz H ds → Nx H) :
    ∃ W1 : Nat → Nat → Hp → Prop, (∃ m, W1 0 m H2) ∧ ∀ j k H, W1 j k H → (J.stop j H ∧ Nx H) ∨ (J.go j H ∧ ∃ Nx1 : Hp → Prop, (∀ H', Nx1 H' → ∃ k', k' < k ∧ W1 (j + 1) k' H') ∧ ∀ x H', J.yld j H x H' → tGo G us1 g x (wipe σ vs1) H' fun σ3 H5 => wipe σ3 vs1 = wipe σ vs1 ∧ tM rB G wF t σ3 H5 fun b H6 =>
        if b = true then tM (rW G) G wF e σ3 H6 fun y H7 => ∃ acc, H7 d = some (.lst acc) ∧ acc.length < sizeLine ∧ Nx1 (upd H7 d (.lst (acc ++ [y]))) else Nx1 H6) := by
  refine ⟨fun i m H => m = ws.length - i ∧ i ≤ ws.length ∧ ∃ α S acc, LcAt G F α1 S1 H1 d α S H acc ∧ StpF (fun a => F a ∨ a = d) α2 S2 H2 α S H ∧ compC g t e (wipeT τ vs1) (ws.drop i) acc S = some (ds, Sz), ⟨ws.length, by simp, Nat.zero_le _, α2, S2, acc, ca, Stp.refl.toF, by simpa using ec⟩, ?_⟩
  rintro i m H ⟨rfl, hle, α, S, acc, ca, st, ec⟩
  by_cases hlt : i < ws.length
  · have ei : ws[i]? = some ws[i] := by simp [hlt]
    rw [List.drop_eq_getElem_cons hlt] at ec
    obtain ⟨hgo, hyl⟩ := (hy i α S H ca.rel st).2 _ ei
    refine .inr ⟨hgo, fun H' => i + 1 ≤ ws.length ∧ ∃ α S acc, LcAt G F α1 S1 H1 d α S H' acc ∧ StpF (fun a => F a ∨ a = d) α2 S2 H2 α S H' ∧ compC g t e (wipeT τ vs1) (ws.drop (i + 1)) acc S = some (ds, Sz), fun H' q => ⟨_, by omega, rfl, q⟩, fun x H' y => ?_⟩
    obtain ⟨sm, rx⟩ := hyl x H' y
    have s0 : Stp α S H α S H' := Stp.same sm
    have ca' := ca.on (ca.rel.same sm) s0
    have st' := st.trans s0.toF
    have sl' : SlotsR G H' (XX (fun a => F a ∨ a = d) α S) α (wipeT τ vs1) (wipe σ vs1) := (wipeT_slots sl vs1).stpF st'
    unfold compC at ec
    split at ec
    · cases ec
    · rename_i τ1 S3 eg
      refine ⟨_, α, S, wipeT τ vs1, ws[i], τ1, S3, ca'.rel, sl', rx, eg, fun α4 H4 σ4 r4 s4 sl4 wp => ⟨?_, ?_⟩⟩
      · rw [wipe_more hu wp, wipe_wipe]
      · have ca4 := ca'.on r4 s4
        have st4 := st'.trans s4.toF
        refine ⟨_, α4, S3, τ1, r4, sl4, ?_⟩
        cases et : t τ1 S3 with
        | no => rw [et] at ec; cases ec
        | ex c fs xs S' => rw [et] at ec; cases ec
        | ok b S5 =>
          rw [et] at ec
          intro α5 H5 b' r5 s5 eb
          have eb : b = b' := eb
          subst eb
          have ca5 := ca4.on r5 s5
          have st5 := st4.trans s5.toF
          cases b with
          | false => exact ⟨hlt, α5, S5, acc, ca5, st5, ec⟩
          | true =>
            simp only [if_true]
            refine ⟨_, α5, S5, τ1, r5, sl4.stp s5, ?_⟩
            dsimp only at ec
            split at ec
            · rename_i x' S6 ee
              rw [ee]
              split at ec
              · rename_i hacc
                intro α6 H6 v r6 s6 rv
                have ca6 := ca5.on r6 s6
                obtain ⟨vs6, hd6, hr6⟩ := ca6.acc
                have nown : ¬ own α6 S6 d := fun ⟨n, o, e, _⟩ => r6.fr d (.inr rfl) (List.mem_of_getElem? e)
                refine ⟨vs6, hd6, ?_, hlt, α6, S6, acc ++ [x'], ca6.push nD hd6 (by unfold rW RepW at rv; exact rv), ?_, ec⟩
                · rw [← hr6.length]
                  exact thou' (by omega)
                · have st6 := st5.trans s6.toF
                  exact ⟨st6.pre, fun a o e nF n => by rw [upd_ne (fun z => nF (.inr z))]; exact st6.keep a o e nF n, st6.less⟩
              · cases ec
            · cases ec
  · have e : i = ws.length := by omega
    subst e
    refine .inl ⟨(hy _ α S H ca.rel st).1 rfl, ?_⟩
    rw [List.drop_length] at ec
    unfold compC at ec
    cases ec
    exact nx α H ca
section
variable {X : Cx} {Wx : WX} {us us1 : List Nat}
theorem tLc2_of {o : Bool} {vs vs1 : List Nat} {mi mi1 : MA} {g g1 : MG} {t t1 : MT} {e : ME} {σ : L2.St} {H : Hp} {Q : VK} (hu : ∀ i ∈ us, i ∈ vs) (hu1 : ∀ i ∈ us1, i ∈ vs1) (h : tE X Wx (lc2M o vs vs1 mi g t mi1 g1 t1 e) σ H Q) :
    tLc2 (tIt X Wx mi) (tGo X.gx us g) (tM rB X.gx wF t) (tIt X wF mi1) (tGo X.gx us1 g1) (tM rB X.gx wF t1) (tM (rW X.gx) X.gx wF e) vs vs1 σ H Q := by
  obtain ⟨F, α0, S0, τ, r, sl, f⟩ := h
  refine ⟨F, α0, S0, τ, r, sl, ?_⟩
  unfold lc2M at f
  cases em : mi τ S0 with
  | no => rw [em] at f; exact f
  | ex c fs ws S' => rw [em] at f; exact f
  | ok ws S1 =>
    rw [em, Res.bind_ok] at f
    intro α1 H1 J r1 s1 hy D nD
    split at f
    · rename_i ds S2 ec
      have nF : ¬ F D := fun z => by obtain ⟨o, e⟩ := r1.fd D z; rw [nD] at e; cases e
      have hy := hy (fun a => F a ∨ a = D) fun a z => z.elim .inl fun z => .inr (z ▸ nD)
      refine ⟨fun i m H => m = ws.length - i ∧ i ≤ ws.length ∧ ∃ α S acc, LcAt X.gx F α1 S1 H1 D α S H acc ∧ compO g t mi1 vs1 g1 t1 e (wipeT τ vs) (ws.drop i) acc S = some (ds, S2), ⟨ws.length, by simp, Nat.zero_le _, α1, S1, [], LcAt.first r1 nD, by simpa using ec⟩, ?_⟩
      rintro i m H ⟨rfl, hle, α, S, acc, ca, ec⟩
      by_cases hlt : i < ws.length
      · have ei : ws[i]? = some ws[i] := by simp [hlt]
        rw [List.drop_eq_getElem_cons hlt] at ec
        obtain ⟨hgo, hyl⟩ := (hy i α S H ca.rel ca.stp.toF).2 _ ei
        refine .inr ⟨hgo, fun H' => i + 1 ≤ ws.length ∧ ∃ α S acc, LcAt X.gx F α1 S1 H1 D α S H' acc ∧ compO g t mi1 vs1 g1 t1 e (wipeT τ vs) (ws.drop (i + 1)) acc S = some (ds, S2), fun H' q => ⟨_, by omega, rfl, q⟩, fun x H' y => ?_⟩
        obtain ⟨sm, rx⟩ := hyl x H' y
        have ca' := ca.on (ca.rel.same sm) (Stp.same sm)
        have sl' : SlotsR X.gx H' (XX (fun a => F a ∨ a = D) α S) α (wipeT τ vs) (wipe σ vs) := by
          have q := wipeT_slots sl vs
          refine ⟨q.len, fun j w e => ?_⟩
          obtain ⟨v, e1, rv⟩ := q.at_ j w e
          have so := (s1.trans ca'.stp)
          refine ⟨v, e1, rv.stay ⟨fun a u e n => so.keep a u e fun z => n (.inr z), fun a u e z => ?_⟩ so.pre⟩
          rcases z with (z | z) | z
          · exact .inl z
          · subst z
            by_cases ow : own α0 S0 a
            · exact .inr ow
            · have e' := s1.keep a u e ow
              rw [nD] at e'; cases e'
          · exact .inr (so.less a u e z)
        unfold compO at ec
        split at ec
        · cases ec
        · rename_i τ1 S3 eg
          refine ⟨_, α, S, wipeT τ vs, ws[i], τ1, S3, ca'.rel, sl', rx, eg, fun α4 H4 σ4 r4 s4 sl4 wp => ⟨?_, ?_⟩⟩
          · rw [wipe_more hu wp, wipe_wipe]
          · have ca4 := ca'.on r4 s4
            refine ⟨_, α4, S3, τ1, r4, sl4, ?_⟩
            cases et : t τ1 S3 with
            | no => rw [et] at ec; cases ec
            | ex c fs xs S' => rw [et] at ec; cases ec
            | ok b S5 =>
              rw [et] at ec
              intro α5 H5 b' r5 s5 eb
              have eb : b = b' := eb
              subst eb
              have ca5 := ca4.on r5 s5
              cases b with
              | false => exact ⟨hlt, α5, S5, acc, ca5, ec⟩
              | true =>
                simp only [if_true]
                refine ⟨_, α5, S5, τ1, r5, sl4.stp s5, ?_⟩
                dsimp only at ec
                split at ec
                · rename_i ws1 S6 ee
                  rw [ee]
                  intro α6 H6 J1 r6 s6 hy1
                  split at ec
                  · rename_i acc' S7 ec1
                    exact compC_of rfl hu1 nD (ca5.on r6 s6) ((sl4.stp s5).stp s6) (hy1 _ fun _ z => .inl z) ec1 fun α7 H7 ca7 => ⟨hlt, α7, S7, acc', ca7, ec⟩
                  · cases ec
                · cases ec
      · have e : i = ws.length := by omega
        subst e
        refine .inl ⟨(hy _ α S H ca.rel ca.stp.toF).1 rfl, ?_⟩
        rw [List.drop_length] at ec
        unfold compO at ec
        cases ec
        obtain ⟨vs9, hd, hr⟩ := ca.acc
        have so := s1.trans ca.stp
        have nX : ¬ XX F α S2 D := fun z => z.elim nF fun ⟨n, o, e, _⟩ => ca.rel.fr D (.inr rfl) (List.mem_of_getElem? e)
        unfold compEnd at f
        cases o with
        | false => exact f α H _ (ca.rel.lessF fun _ => .inl) so (rw_d (by unfold Rep; exact ⟨D, vs9, rfl, nX, hd, hr.less fun a z => z.elim (fun z => .inl (.inl z)) .inr⟩))
        | true =>
          simp only [if_true] at f
          have ra := own_of_out ca.rel nF hd hr
          have hl := ca.rel.len
          refine f _ H _ ra ⟨so.pre.trans ⟨[D], rfl⟩, fun a u e n => so.keep a u e n, fun a u e z => ?_⟩ (by unfold rW RepW; exact ⟨D, by rw [← hl]; simp, rfl⟩)
          obtain ⟨i, v, e1, e2, e3⟩ := z
          by_cases hi : i < α.length
          · rw [List.getElem?_append_left hi] at e1
            rw [List.getElem?_append_left (by omega)] at e2
            exact so.less a u e ⟨i, v, e1, e2, e3⟩
          · rw [List.getElem?_append_right (by omega)] at e1
            have : a = D := by simpa using List.mem_of_getElem? e1
            subst this
            exact Classical.byContradiction fun q => by
              have := s1.keep a u e q
              rw [nD] at this; cases this
    · exact f.elim
variable {elt tg iter tg1 iter1 : Expr} {pos : Pos} {mi mi1 : MA} {g g1 : MG} {t t1 : MT} {e : ME} {ifs ifs1 : List Expr} {scope : Scope} {own : List (Str × Nat)} {vs1 : List Nat}
theorem me_lc2 (o : Bool) (vs1 : List Nat) (hc : X.calm = true) (hN : X.N.Nodup) (hi : EI X Wx tg iter mi) (ok : BlkOk X.N X.env.scope scope own) (hv : ∀ i ∈ vs1, i ∈ own.map (·.2))
    (hg : ∀ (s : Shared) (H : Hp) (C : Addr) (cl : List (Str × Addr)) (fp : List Addr), EG (X.blk s H scope (compEnvC scope cl C X.env) fp) (own.map (·.2)) tg g)
    (ht : ∀ (s : Shared) (H : Hp) (C : Addr) (cl : List (Str × Addr)) (fp : List Addr), PTs (X.blk s H scope (compEnvC scope cl C X.env) fp) ifs (tM rB X.gx wF t))
    (hi1 : ∀ (s : Shared) (H : Hp) (C : Addr) (cl : List (Str × Addr)) (fp : List Addr), EI (X.blk s H scope (compEnvC scope cl C X.env) fp) wF tg1 iter1 mi1)
    (hg1 : ∀ (s : Shared) (H : Hp) (C : Addr) (cl : List (Str × Addr)) (fp : List Addr), EG (X.blk s H scope (compEnvC scope cl C X.env) fp) vs1 tg1 g1)
    (ht1 : ∀ (s : Shared) (H : Hp) (C : Addr) (cl : List (Str × Addr)) (fp : List Addr), PTs (X.blk s H scope (compEnvC scope cl C X.env) fp) ifs1 (tM rB X.gx wF t1))
    (he : ∀ (s : Shared) (H : Hp) (C : Addr) (cl : List (Str × Addr)) (fp : List Addr), EE (X.blk s H scope (compEnvC scope cl C X.env) fp) wF elt e) (hs : ∀ x, foldedSetIterable iter X.env x = pure x := by intro _; rfl) (hs1 : ∀ env x, foldedSetIterable iter1 env x = pure x := by intro _ _; rfl) :
    EE X Wx (.ListComp elt [⟨tg, iter, ifs, 0⟩, ⟨tg1, iter1, ifs1, 0⟩] scope pos) (lc2M o (own.map (·.2)) vs1 mi g t mi1 g1 t1 e) :=
  PE.imp (pe_lc2 (te := tM (rW X.gx) X.gx wF e) (g := tGo X.gx (own.map fun q : Str × Nat => q.2) g) (g1 := tGo X.gx vs1 g1) (wi1 := tIt X wF mi1) hc hN hi ok hv hg ht hi1 hg1 ht1 he hs hs1) fun σ H Q h => tLc2_of (fun _ z => z) (fun _ z => z) h
theorem ms_setLc2 {i : Nat} {y : Str} {py spos : Pos} (o : Bool) (vs1 : List Nat) (hc : X.calm = true) (hN : X.N.Nodup) (hy : X.N[i]? = some y) (hyl : X.env.scope.names.lookup y = some .local)
    (hsw : swapsWith (.ListComp elt [⟨tg, iter, ifs, 0⟩, ⟨tg1, iter1, ifs1, 0⟩] scope pos) (some (.Name y py)) spos.line X.env = pure true) (hi : EI X Wx tg iter mi) (ok : BlkOk X.N X.env.scope scope own) (hv : ∀ i ∈ vs1, i ∈ own.map (·.2))
    (hg : ∀ (s : Shared) (H : Hp) (C : Addr) (cl : List (Str × Addr)) (fp : List Addr), EG (X.blk s H scope (compEnvC scope cl C X.env) fp) (own.map (·.2)) tg g)
    (ht : ∀ (s : Shared) (H : Hp) (C : Addr) (cl : List (Str × Addr)) (fp : List Addr), PTs (X.blk s H scope (compEnvC scope cl C X.env) fp) ifs (tM rB X.gx wF t))
    (hi1 : ∀ (s : Shared) (H : Hp) (C : Addr) (cl : List (Str × Addr)) (fp : List Addr), EI (X.blk s H scope (compEnvC scope cl C X.env) fp) wF tg1 iter1 mi1)
    (hg1 : ∀ (s : Shared) (H : Hp) (C : Addr) (cl : List (Str × Addr)) (fp : List Addr), EG (X.blk s H scope (compEnvC scope cl C X.env) fp) vs1 tg1 g1)
    (ht1 : ∀ (s : Shared) (H : Hp) (C : Addr) (cl : List (Str × Addr)) (fp : List Addr), PTs (X.blk s H scope (compEnvC scope cl C X.env) fp) ifs1 (tM rB X.gx wF t1))
    (he : ∀ (s : Shared) (H : Hp) (C : Addr) (cl : List (Str × Addr)) (fp : List Addr), EE (X.blk s H scope (compEnvC scope cl C X.env) fp) wF elt e) (hs : ∀ x, foldedSetIterable iter X.env x = pure x := by intro _; rfl) (hs1 : ∀ env x, foldedSetIterable iter1 env x = pure x := by intro _ _; rfl) :
    ES X Wx (.Assign [.Name y py] (.ListComp elt [⟨tg, iter, ifs, 0⟩, ⟨tg1, iter1, ifs1, 0⟩] scope pos) spos) (asS (lc2M o (own.map (·.2)) vs1 mi g t mi1 g1 t1 e) (gN i)) :=
  PS.imp (ps_setLc2 (te := tM (rW X.gx) X.gx wF e) (g := tGo X.gx (own.map fun q : Str × Nat => q.2) g) (g1 := tGo X.gx vs1 g1) (wi1 := tIt X wF mi1) hc hN hy hyl hsw hi ok hv hg ht hi1 hg1 ht1 he hs hs1) fun D σ H h =>
    tLc2_of (fun _ z => z) (fun _ z => z) (tS_then (R := rW X.gx) (k := fun w τ S1 => match gN i w τ S1 with
      | some (τ', S2) => .nx τ' S2
      | none => .no) h fun v H1 F α S τ w r sl rw' f => f α H1 _ r Stp.refl (sl.set rw'))
end
end Mi
set_option Elab.async false
set_option linter.all false
set_option maxRecDepth 100000
set_option maxHeartbeats 4000000
namespace Mi
open PySem PySem.Spec PyProof.Rows L2 He Wl
mutual
def keyD : D → Option NK
  | .non => some .none
  | .int i => some (.num i)
  | .str x => some (.text x)
  | .tup xs => (keyDs xs).map .tup
  | _ => none
def keyDs : List D → Option (List NK)
  | [] => some []
  | x :: xs => match keyD x, keyDs xs with
    | some k, some ks => some (k :: ks)
    | _, _ => none
end
def isTupK : NK → Bool
  | .tup _ => true
  | _ => false
def tkey : W → Option NK
  | .d (.tup xs) => match keyD (.tup xs) with
    | some k => if k.depth ≤ 8 then some k else none
    | none => none
  | _ => none
section
variable {G : Gx} {H : Hp} {Y : Addr → Prop}
mutual
theorem keyD_at : ∀ {x : D} {v : V} {k : NK}, Rep G H Y x v → keyD x = some k → KeyAt H Y k v
  | .non, v, k, h, e => by unfold keyD at e; cases e; unfold Rep at h; unfold KeyAt; exact h
  | .int i, v, k, h, e => by unfold keyD at e; cases e; unfold Rep at h; unfold KeyAt; exact h
  | .str i, v, k, h, e => by unfold keyD at e; cases e; unfold Rep at h; unfold KeyAt; exact h
  | .tup xs, v, k, h, e => by
    unfold keyD at e
    rw [Option.map_eq_some_iff] at e
    obtain ⟨ks, e, rfl⟩ := e
    unfold Rep at h
    obtain ⟨a, vs, e1, n, h1, h2⟩ := h
    unfold KeyAt
    exact ⟨a, vs, e1, n, h1, keyDs_at h2 e⟩
  | .bl _, v, k, h, e => by unfold keyD at e; cases e
  | .lst _, v, k, h, e => by unfold keyD at e; cases e
  | .dct _ _, v, k, h, e => by unfold keyD at e; cases e
  | .rat _, v, k, h, e => by unfold keyD at e; cases e
  | .ins _ _ _, v, k, h, e => by unfold keyD at e; cases e
  | .ty _, v, k, h, e => by unfold keyD at e; cases e
  | .gl _, v, k, h, e => by unfold keyD at e; cases e
  | .scr _, v, k, h, e => by unfold keyD at e; cases e
theorem keyDs_at : ∀ {xs : List D} {vs : List V} {ks : List NK}, Reps G H Y xs vs → keyDs xs = some ks → KeysAt H Y ks vs
  | [], vs, ks, h, e => by unfold keyDs at e; cases e; unfold Reps at h; unfold KeysAt; exact h
  | x :: xs, vs, ks, h, e => by
    unfold keyDs at e
    split at e
    · rename_i k ks' e1 e2
      cases e
      unfold Reps at h
      obtain ⟨v, r, e3, h1, h2⟩ := h
      unfold KeysAt
      exact ⟨v, r, e3, keyD_at h1 e1, keyDs_at h2 e2⟩
    · cases e
end
end
theorem tkey_at {G : Gx} {H : Hp} {Y : Addr → Prop} {α : List Addr} {w : W} {v : V} {k : NK} (h : RepW G H Y α w v) (e : tkey w = some k) : ∃ q, v = .ref q ∧ (∃ l, k = .tup l) ∧ k.depth ≤ 8 ∧ KeyAt H Y k (.ref q) := by
  unfold tkey at e
  split at e
  · rename_i xs
    split at e
    · rename_i k' ek
      split at e
      · rename_i hd
        cases e
        unfold RepW at h
        have z := keyD_at h ek
        unfold Rep at h
        obtain ⟨a, vs, rfl, _⟩ := h
        refine ⟨a, rfl, ?_, hd, z⟩
        unfold keyD at ek
        rw [Option.map_eq_some_iff] at ek
        obtain ⟨l, _, rfl⟩ := ek
        exact ⟨l, rfl⟩
      · cases e
    · cases e
  · cases e
section
variable {X : Cx} {pins : List (Addr × Obj)} {σ : L2.St} {H : Hp} {s : Shared}
mutual
theorem key_nest (I : Inv X pins σ H s) {Y : Addr → Prop} : ∀ {k : NK} {v : V} {u : Value}, KeyAt H Y k v → RelV v u → NestedIs s.heap k u
  | .none, v, u, h, r => by unfold KeyAt at h; subst h; cases (show u = Value.none from r); exact .none
  | .num i, v, u, h, r => by unfold KeyAt at h; subst h; obtain ⟨t, rfl⟩ := (show ∃ t, u = Value.int i t from r); exact .int i t
  | .text i, v, u, h, r => by unfold KeyAt at h; subst h; obtain ⟨t, rfl⟩ := (show ∃ t, u = Value.str i t from r); exact .text i t
  | .tup ks, v, u, h, r => by
    unfold KeyAt at h
    obtain ⟨a, vs, rfl, _, h1, h2⟩ := h
    cases (show u = Value.ref a from r)
    obtain ⟨its, rv, ⟨ob, ho, hc, n, hd⟩, _⟩ := I.tuple (SqT.of h1)
    exact .tup ho hc hd (by simpa using keys_nest I h2 rv)
theorem keys_nest (I : Inv X pins σ H s) {Y : Addr → Prop} : ∀ {ks : List NK} {vs : List V} {us : List Value}, KeysAt H Y ks vs → Vals vs us → NestedAll s.heap ks us
  | [], vs, us, h, r => by unfold KeysAt at h; subst h; cases r; exact .nil
  | k :: ks, vs, us, h, r => by
    unfold KeysAt at h
    obtain ⟨v, r', rfl, h1, h2⟩ := h
    cases r with
    | cons r1 r2 => exact .cons (key_nest I h1 r1) (keys_nest I h2 r2)
end
theorem key_is {Y : Addr → Prop} {k : NK} {q : Addr} (I : Inv X pins σ H s) (h : KeyAt H Y k (.ref q)) (hd : k.depth ≤ 8) : (nestedKind X.prog X.w).is s.heap k q := ⟨key_nest I h rfl, hd⟩
abbrev dnX (es : List DnE) (us : List Value) : List (NK × Addr × Value) := (es.zip us).map fun p => (p.1.k, p.1.q, p.2)
theorem dnX_keys : ∀ {es : List DnE} {us : List Value}, Paired (fun (e : DnE) u => RelV e.v u) es us → (dnX es us).map (·.1) = es.map DnE.k
  | _, _, .nil => rfl
  | _, _, .cons r t => congrArg _ (dnX_keys t)
theorem dnX_len {es : List DnE} {us : List Value} (r : Paired (fun (e : DnE) u => RelV e.v u) es us) : (dnX es us).length = es.length := by
  have := congrArg List.length (dnX_keys r)
  simpa using this
theorem dnX_mem {es : List DnE} {us : List Value} {x : NK × Addr × Value} (h : x ∈ dnX es us) : ∃ e ∈ es, x.1 = e.k ∧ x.2.1 = e.q := by
  obtain ⟨p, hp, rfl⟩ := List.mem_map.mp h
  exact ⟨p.1, (List.of_mem_zip hp).1, rfl, rfl⟩
abbrev KeyOk (H : Hp) (Y : Addr → Prop) (e : DnE) : Prop := (∃ l, e.k = .tup l) ∧ e.k.depth ≤ 8 ∧ KeyAt H Y e.k (.ref e.q)
theorem dict_H (I : Inv X pins σ H s) {Y : Addr → Prop} {a : Addr} {R : HO → Prop} {ks : List NK} {vs : List V} (hR : ∀ u, R u → ObjOk X.prog X.w H s.heap a u) (h : DictAt X.gx H Y a R ks vs) (ht : ks.all isTupK = true) :
    ∃ es us, es.map DnE.k = ks ∧ es.map DnE.v = vs ∧ (∀ e ∈ es, KeyOk H Y e) ∧ Paired (fun (e : DnE) u => RelV e.v u) es us ∧ (a == sysModules) = false ∧ es.length ≤ sizeLine ∧ s.heap.DictOfH (nestedKind X.prog X.w) a (dnX es us) := by
  rcases h with ⟨kvs, h, e1, e2⟩ | ⟨es, h, e1, e2, hk⟩ | ⟨ps, h, e1, e2, e3⟩
  rotate_left 2
  · exact absurd ht (by
      intro z
      have e : ks.all tupKd = true := by
        rw [List.all_eq_true] at z ⊢
        intro k hk
        have := z k hk
        cases k <;> first | rfl | cases this
      unfold mixK at e3
      rw [e] at e3
      cases e3)
  · have : kvs = [] := by
      cases kvs with
      | nil => rfl
      | cons p r =>
        subst e1
        obtain ⟨k, v⟩ := p
        cases k <;> simp [nkK, isTupK] at ht
    subst this
    cases e1; cases e2
    obtain ⟨hl, hs, vs, rel, o, es, ep, ho, hx, hd, hp⟩ := (show ObjOk X.prog X.w H s.heap a (.dK []) from hR _ h)
    cases rel
    refine ⟨[], [], rfl, rfl, (fun _ z => nomatch z), .nil, hs, Nat.zero_le _, o, es, ep, ho, hx, hd, ?_, (fun _ z => nomatch z), .nil⟩
    have hz : es.toList.length = 0 := by
      have := hp.2.1.length
      simpa using this
    rw [List.length_eq_zero_iff.mp hz]
    rfl
  · obtain ⟨⟨hl, hs, hn, us, o, ar, ep, r, ho, hx, hd, he⟩, _⟩ := (show ObjOk X.prog X.w H s.heap a (DnO X.gx a es) from hR _ h)
    refine ⟨es, us, e1, e2, hk, r, hs, hl, o, ar, ep, ho, hx, hd, ?_, fun y hy => ?_, ?_⟩
    · rw [he, List.map_map]; rfl
    · obtain ⟨e, me, e1, e2⟩ := dnX_mem hy
      rw [e1, e2]
      exact key_is I (hk e me).2.2 (hk e me).2.1
    · rw [dnX_keys r]; exact hn
end
def dAt {β : Type} : List NK → List β → NK → Option β
  | k :: ks, v :: vs, j => if k = j then some v else dAt ks vs j
  | _, _, _ => none
theorem dnX_at : ∀ {es : List DnE} {us : List Value}, Paired (fun (e : DnE) u => RelV e.v u) es us → ∀ k : NK, match dAt (es.map DnE.k) (es.map DnE.v) k with
    | some v => ∃ q u, atKey (dnX es us) k = some (q, u) ∧ RelV v u
    | none => atKey (dnX es us) k = none
  | _, _, .nil, k => rfl
  | e :: es, u :: us, .cons r t, k => by
    have ih := dnX_at t k
    rw [List.map_cons, List.map_cons]
    unfold dAt atKey
    show match if e.k = k then some e.v else dAt (es.map DnE.k) (es.map DnE.v) k with
      | some v => ∃ q u', ((((e.k, e.q, u) :: dnX es us).find? fun x => decide (x.1 = k)).map (·.2)) = some (q, u') ∧ RelV v u'
      | none => ((((e.k, e.q, u) :: dnX es us).find? fun x => decide (x.1 = k)).map (·.2)) = none
    rw [List.find?_cons]
    by_cases h : e.k = k
    · simp only [h, decide_true, if_true]
      exact ⟨_, _, rfl, r⟩
    · simp only [h, decide_false, if_false]
      exact ih
theorem dAt_rep {G : Gx} {H : Hp} {Y : Addr → Prop} {α : List Addr} {k : NK} : ∀ {ks : List NK} {ws : List W} {vs : List V}, RepWs G H Y α ws vs → (∀ w, dAt ks ws k = some w → ∃ v, dAt ks vs k = some v ∧ RepW G H Y α w v) ∧ (dAt ks ws k = none → dAt ks vs k = none)
  | [], ws, vs, h => ⟨(fun w e => by unfold dAt at e; cases e), (fun _ => by unfold dAt; rfl)⟩
  | j :: ks, [], vs, h => by unfold RepWs at h; subst h; exact ⟨(fun w e => by unfold dAt at e; cases e), (fun _ => by unfold dAt; rfl)⟩
  | j :: ks, w :: ws, vs, h => by
    unfold RepWs at h
    obtain ⟨v, r, rfl, h1, h2⟩ := h
    obtain ⟨i1, i2⟩ := dAt_rep (k := k) (ks := ks) h2
    unfold dAt
    by_cases e : j = k
    · simp only [e, if_true]
      exact ⟨fun w' e' => by cases e'; exact ⟨v, rfl, h1⟩, fun e' => nomatch e'⟩
    · simp only [e, if_false]
      exact ⟨i1, i2⟩
def dctOf (S : Sto) : W → Option (List NK × List W)
  | .d (.dct ks vs) => some (ks, vs.map .d)
  | .loc n => match S[n]? with
    | some (.dct ks ws) => some (ks, ws)
    | some (.fz (.dct ks vs)) => some (ks, vs.map .d)
    | _ => none
  | _ => none
section
variable {X : Cx} {pins : List (Addr × Obj)} {σ : L2.St} {H : Hp} {s : Shared} {F : Addr → Prop} {α : List Addr} {S : Sto}
theorem dctOf_at {w : W} {v : V} {ks : List NK} {ws : List W} (r : Rel X.gx F α S H) (h : RepW X.gx H (XX F α S) α w v) (e : dctOf S w = some (ks, ws)) :
    ∃ a vs R, v = .ref a ∧ DictAt X.gx H (XX F α S) a R ks vs ∧ RepWs X.gx H (XX F α S) α ws vs ∧ ∀ (pins : List (Addr × Obj)) (σ : L2.St) (s : Shared), Inv X pins σ H s → ∀ u, R u → ObjOk X.prog X.w H s.heap a u := by
  have frz : ∀ {ks : List NK} {xs : List D} {v : V}, Rep X.gx H (XX F α S) (.dct ks xs) v → ∃ a vs R, v = .ref a ∧ DictAt X.gx H (XX F α S) a R ks vs ∧ RepWs X.gx H (XX F α S) α (xs.map .d) vs ∧ ∀ (pins : List (Addr × Obj)) (σ : L2.St) (s : Shared), Inv X pins σ H s → ∀ u, R u → ObjOk X.prog X.w H s.heap a u := fun {ks xs v} h => by
    unfold Rep at h
    obtain ⟨a, vs, e, _, h1, h2⟩ := h
    exact ⟨a, vs, _, e, h1, reps_d h2, fun pins σ s I u ⟨o, z⟩ => (show ObjOk X.prog X.w H s.heap a (.frz o u) from I.hok a _ z).2⟩
  unfold dctOf at e
  split at e
  · cases e
    unfold RepW at h
    exact frz h
  · rename_i n
    unfold RepW at h
    obtain ⟨a, ea, rfl⟩ := h
    split at e
    · rename_i es
      cases e
      obtain ⟨vs, h1, h2⟩ := r.obj n a _ ea es
      exact ⟨a, vs, _, rfl, h1, h2, fun pins σ s I u z => I.hok a _ z⟩
    · rename_i es
      cases e
      exact frz (r.obj n a _ ea es)
    · cases e
  · cases e
theorem hu8 {A : Around} (hu : A.units + 64 < cLine) : (nestedKind X.prog X.w).room A.in1 := by
  show A.in1.units + 8 < cLine
  have : A.in1.units = A.units + 1 := rfl
  omega
def qIxD : Pr := pure2 fun S d k => match dctOf S d, tkey k with
  | some (ks, ws), some j => if ks.all isTupK = true then dAt ks ws j else none
  | _, _ => none
theorem subT_of {prog : Program} {w : World} {A : Around} {E : Value → Shared → Prop} {s : Shared} {value slice : Expr} {o i : Value} {T id : String} {Q : Value → Shared → Prop} (hl : typeLookup (.type T) "__getitem__" = pure (some (.builtin id)))
    (hs : subscripted slice false o i = operate [o, i] (getItem o i)) (hT : s.TypeIs o T) (h : wpAny (model prog w) A (getItem o i) Q E s) : wpAny (model prog w) A (subscriptTail value slice o i) Q E s := by
  unfold subscriptTail
  refine wpAny_bind ?_
  rw [getitemInPython_of_ne hT.not_modules]
  refine wpAny_bind (wpAny_specialOf hT hl ?_)
  have fin : wpAny (model prog w) A (subscripted slice false o i) (fun r s₃ => wpAny (model prog w) A (letTemporaryGo value o r >>= fun _ => pure r) Q E s₃) E s := by
    rw [hs]
    exact wpAny_operating (wpAny_mono h (fun r s₃ h₃ => wpAny_bind (wpAny_letTemporaryGo (wpAny_pure h₃))) fun _ _ x => x)
  first
    | exact wpAny_pure (wpAny_bind fin)
    | exact wpAny_bind (wpAny_pure (wpAny_bind fin))
    | exact wpAny_bind fin
theorem is_ixD (hu : X.A.units + 64 < cLine) : IxS X qIxD := fun va sl pins s σ H x y v u Q I rx ry q hs => by
  obtain ⟨F, α, S, wx, wy, w, r, hx, hy, e, k⟩ := rQ_two q
  split at e
  · rename_i ks ws j ed ek
    split at e
    · rename_i ht
      obtain ⟨a, vs, R, rfl, dt, rv, hR⟩ := dctOf_at r hx ed
      obtain ⟨qq, rfl, hl, hd, ka⟩ := tkey_at hy ek
      cases (show v = Value.ref a from rx)
      cases (show u = Value.ref qq from ry)
      obtain ⟨es, us, e1, e2, hk, pr, hsm, hle, dd⟩ := dict_H I (hR pins σ s I) dt ht
      obtain ⟨v', ev, rw'⟩ := (dAt_rep (k := j) (ks := ks) rv).1 w e
      have z := dnX_at pr j
      rw [e1, e2, ev] at z
      obtain ⟨p, u', z1, z2⟩ := z
      exact subT_of slot_dict_getitem.lookup hs dd.typeIs (wpAny_getItem_heap (hu8 hu) (key_is I ka hd) dd z1 ⟨v', H, I.tok _, z2, k H v' (fun _ _ e => e) rw'⟩)
    · cases e
  · cases e
def inD (neg : Bool) : Sto → W → W → Option W := fun S k d => match dctOf S d, tkey k with
  | some (ks, _), some j => if ks.all isTupK = true then some (.d (.bl (Bool.xor neg (ks.contains j)))) else none
  | _, _ => none
def qInD : Pr := pure2 (inD false)
def qNiD : Pr := pure2 (inD true)
theorem dAt_some {β : Type} {k : NK} : ∀ {ks : List NK} {vs : List β}, ks.length = vs.length → (dAt ks vs k).isSome = ks.contains k
  | [], [], _ => by simp [dAt]
  | j :: ks, v :: vs, h => by
    unfold dAt
    by_cases e : j = k
    · simp [e]
    · have e' : ¬ k = j := fun z => e z.symm
      simp [e, e', dAt_some (k := k) (ks := ks) (vs := vs) (by simpa using h)]
theorem inD_of (neg : Bool) (hu : X.A.units + 64 < cLine) {x y : V} {v u : Value} {Q : VK} (I : Inv X pins σ H s) (rx : RelV x v) (ry : RelV y u) (q : rQ X.gx (pure2 (inD neg)) [x, y] H Q) :
    ∃ (b c : Addr) (j : NK) (xs : List (NK × Addr × Value)), v = .ref b ∧ u = .ref c ∧ (nestedKind X.prog X.w).is s.heap j b ∧ (c == sysModules) = false ∧ s.heap.DictOfH (nestedKind X.prog X.w) c xs ∧ Q (.bl (Bool.xor neg (atKey xs j).isSome)) H := by
  obtain ⟨F, α, S, wx, wy, w, r, hx, hy, e, k⟩ := rQ_two q
  unfold inD at e
  split at e
  · rename_i ks ws j ed ek
    split at e
    · rename_i ht
      cases e
      obtain ⟨a, vs, R, rfl, dt, rv, hR⟩ := dctOf_at r hy ed
      obtain ⟨qq, rfl, hl, hd, ka⟩ := tkey_at hx ek
      cases (show u = Value.ref a from ry)
      cases (show v = Value.ref qq from rx)
      obtain ⟨es, us, e1, e2, hk, pr, hsm, hle, dd⟩ := dict_H I (hR pins σ s I) dt ht
      refine ⟨qq, a, j, _, rfl, rfl, key_is I ka hd, hsm, dd, ?_⟩
      have z : (atKey (dnX es us) j).isSome = ks.contains j := by
        rw [← e1, ← dAt_some (vs := es.map DnE.v) (by simp)]
        have z := dnX_at pr j
        split at z
        · rename_i v ev
          obtain ⟨q, u, z1, _⟩ := z
          rw [z1, ev]; rfl
        · rename_i ev
          rw [z, ev]; rfl
      rw [z]
      exact k H _ (fun _ _ e => e) (rw_d (rep_bl _))
    · cases e
  · cases e
theorem os_inD (hu : X.A.units + 64 < cLine) : OpS X (compareOp .In) qInD := fun pins s σ H x y v u Q I rx ry q => by
  obtain ⟨b, c, j, xs, rfl, rfl, hk, hsm, dd, k⟩ := inD_of false hu I rx ry q
  exact wpAny_in_heap (hu8 hu) hk hsm dd ⟨.bl _, H, I.tok _, rfl, by simpa using k⟩
theorem os_niD (hu : X.A.units + 64 < cLine) : OpS X (compareOp .NotIn) qNiD := fun pins s σ H x y v u Q I rx ry q => by
  obtain ⟨b, c, j, xs, rfl, rfl, hk, hsm, dd, k⟩ := inD_of true hu I rx ry q
  exact wpAny_notIn_heap (hu8 hu) hk hsm dd ⟨.bl _, H, I.tok _, rfl, by simpa using k⟩
def qGetD : Pr := pureN fun S ws => match ws with
  | [d, k, x] => (match dctOf S d, tkey k with
    | some (ks, vs), some j => if ks.all isTupK = true then some ((dAt ks vs j).getD x) else none
    | _, _ => none)
  | _ => none
def tyD : Sto → W → Bool := fun S w => (dctOf S w).isSome
theorem mq_getD (hu : X.A.units + 64 < cLine) : MtQ X "dict.get" qGetD := fun pins s σ H x xs v us Q I rx rs z => by
  obtain ⟨F, α, S, ws, w, r, hw, e, k⟩ := rQ_many z
  split at e
  · rename_i d kk dx
    unfold RepWs at hw
    obtain ⟨x', _, eq, h1, hw⟩ := hw
    unfold RepWs at hw
    obtain ⟨y, _, rfl, h2, hw⟩ := hw
    unfold RepWs at hw
    obtain ⟨y2, _, rfl, h3, hw⟩ := hw
    unfold RepWs at hw
    subst hw
    cases eq
    obtain ⟨u1, u2, rfl, r1, r2⟩ := vals2 rs
    split at e
    · rename_i ks ws j ed ek
      split at e
      · rename_i ht
        cases e
        obtain ⟨a, vs, R, rfl, dt, rv, hR⟩ := dctOf_at r h1 ed
        obtain ⟨qq, rfl, hl, hd, ka⟩ := tkey_at h2 ek
        cases (show v = Value.ref a from rx)
        cases (show u1 = Value.ref qq from r1)
        obtain ⟨es, us, e1, e2, hk, pr, hsm, hle, dd⟩ := dict_H I (hR pins σ s I) dt ht
        have room : (nestedKind X.prog X.w).room X.A.in1.in1 := by
          show X.A.in1.in1.units + 8 < cLine
          have : X.A.in1.in1.units = X.A.units + 1 + 1 := rfl
          omega
        refine call_meetsIn PySem.F.slot_dict_get dd.typeIs PySem.F.entry_dict_get (PySem.F.args_dict_get_3 _ _ _) (meetsH_dict_get_default (nestedKind X.prog X.w) a qq hsm u2) ⟨hu8 hu, j, _, key_is I ka hd, dd, ?_⟩
        have z := dnX_at pr j
        rw [e1, e2] at z
        obtain ⟨g1, g2⟩ := dAt_rep (k := j) (ks := ks) rv
        cases eg : dAt ks ws j with
        | some w' =>
          rw [eg] at k
          obtain ⟨v', ev, rw'⟩ := g1 w' eg
          rw [ev] at z
          obtain ⟨p, u', z1, z2⟩ := z
          rw [z1]
          exact ⟨v', H, I.tok _, z2, k H v' (fun _ _ e => e) rw'⟩
        | none =>
          rw [eg] at k
          rw [g2 eg] at z
          rw [z]
          exact ⟨y2, H, I.tok _, r2, k H y2 (fun _ _ e => e) h3⟩
      · cases e
    · cases e
  · cases e
end
end Mi
set_option Elab.async false
set_option linter.all false
set_option maxRecDepth 100000
set_option maxHeartbeats 4000000
namespace Mi
open PySem PySem.Spec PyProof.Rows L2 He Wl
def dRep {β : Type} : List NK → List β → NK → β → List β
  | k :: ks, v :: vs, j, x => (if k = j then x else v) :: dRep ks vs j x
  | _, vs, _, _ => vs
def putKs (ks : List NK) (j : NK) : List NK := if ks.contains j then ks else ks ++ [j]
def putVs {β : Type} (ks : List NK) (vs : List β) (j : NK) (x : β) : List β := if ks.contains j then dRep ks vs j x else vs ++ [x]
def putE (es : List DnE) (j : NK) (q : Addr) (v : V) : List DnE := if (es.map DnE.k).contains j then es.map (fun e => if e.k = j then { e with v := v } else e) else es ++ [⟨j, q, v⟩]
theorem putE_keys (es : List DnE) (j : NK) (q : Addr) (v : V) : (putE es j q v).map DnE.k = putKs (es.map DnE.k) j := by
  unfold putE putKs
  split
  · rw [List.map_map]
    apply List.map_congr_left
    intro e _
    show (if e.k = j then { e with v := v } else e).k = e.k
    split <;> rfl
  · simp
theorem dRep_map (j : NK) (v : V) : ∀ es : List DnE, (es.map (fun e => if e.k = j then { e with v := v } else e)).map DnE.v = dRep (es.map DnE.k) (es.map DnE.v) j v
  | [] => rfl
  | e :: es => by
    rw [List.map_cons, List.map_cons, List.map_cons, List.map_cons]
    unfold dRep
    rw [dRep_map j v es]
    congr 1
    split <;> rfl
theorem putE_vals (es : List DnE) (j : NK) (q : Addr) (v : V) : (putE es j q v).map DnE.v = putVs (es.map DnE.k) (es.map DnE.v) j v := by
  unfold putE putVs
  split
  · exact dRep_map j v es
  · simp
theorem atKey_some : ∀ {es : List DnE} {us : List Value}, Paired (fun (e : DnE) u => RelV e.v u) es us → ∀ j, (atKey (dnX es us) j).isSome = (es.map DnE.k).contains j := fun {es us} pr j => by
  rw [← dAt_some (vs := es.map DnE.v) (by simp)]
  have z := dnX_at pr j
  split at z
  · rename_i v ev
    obtain ⟨q, u, z1, _⟩ := z
    rw [z1, ev]; rfl
  · rename_i ev
    rw [z, ev]; rfl
theorem rep_pair {j : NK} {v : V} {u : Value} (rv : RelV v u) : ∀ {es : List DnE} {us : List Value}, Paired (fun (e : DnE) u => RelV e.v u) es us →
    ∃ us', Paired (fun (e : DnE) u => RelV e.v u) (es.map fun e => if e.k = j then { e with v := v } else e) us' ∧ (dnX es us).map (putAt j u) = dnX (es.map fun e => if e.k = j then { e with v := v } else e) us'
  | _, _, .nil => ⟨[], .nil, rfl⟩
  | e :: es, u0 :: us, .cons r t => by
    obtain ⟨us', p, q⟩ := rep_pair rv t
    by_cases h : e.k = j
    · refine ⟨u :: us', ?_, ?_⟩
      · rw [List.map_cons, if_pos h]; exact .cons rv p
      · show putAt j u (e.k, e.q, u0) :: (dnX es us).map (putAt j u) = _
        rw [q, List.map_cons, if_pos h]
        unfold putAt
        rw [if_pos h]
        rfl
    · refine ⟨u0 :: us', ?_, ?_⟩
      · rw [List.map_cons, if_neg h]; exact .cons r p
      · show putAt j u (e.k, e.q, u0) :: (dnX es us).map (putAt j u) = _
        rw [q, List.map_cons, if_neg h]
        unfold putAt
        rw [if_neg h]
        rfl
theorem snoc_pair {e : DnE} {u : Value} (rv : RelV e.v u) : ∀ {es : List DnE} {us : List Value}, Paired (fun (e : DnE) u => RelV e.v u) es us → Paired (fun (e : DnE) u => RelV e.v u) (es ++ [e]) (us ++ [u]) ∧ dnX (es ++ [e]) (us ++ [u]) = dnX es us ++ [(e.k, e.q, u)]
  | _, _, .nil => ⟨.cons rv .nil, rfl⟩
  | _, _, .cons r t => by
    obtain ⟨p, q⟩ := snoc_pair rv t
    exact ⟨.cons r p, congrArg _ q⟩
theorem stored_E {es : List DnE} {us : List Value} {j : NK} {q : Addr} {v : V} {u : Value} (pr : Paired (fun (e : DnE) u => RelV e.v u) es us) (rv : RelV v u) :
    ∃ us', Paired (fun (e : DnE) u => RelV e.v u) (putE es j q v) us' ∧ storedH (dnX es us) j q u = dnX (putE es j q v) us' := by
  unfold storedH putE
  rw [atKey_some pr j]
  split
  · exact rep_pair rv pr
  · obtain ⟨p, e⟩ := snoc_pair (e := ⟨j, q, v⟩) rv pr
    exact ⟨_, p, e.symm⟩
theorem putE_ok {H : Hp} {Y : Addr → Prop} {es : List DnE} {j : NK} {q : Addr} {v : V} (h : ∀ e ∈ es, KeyOk H Y e) (hj : (∃ l, j = .tup l) ∧ j.depth ≤ 8 ∧ KeyAt H Y j (.ref q)) : ∀ e ∈ putE es j q v, KeyOk H Y e := by
  intro e he
  unfold putE at he
  split at he
  · obtain ⟨e0, h0, rfl⟩ := List.mem_map.mp he
    split
    · exact h e0 h0
    · exact h e0 h0
  · rcases List.mem_append.mp he with he | he
    · exact h e he
    · obtain rfl : e = ⟨j, q, v⟩ := by simpa using he
      exact hj
theorem putE_len (es : List DnE) (j : NK) (q : Addr) (v : V) : (putE es j q v).length ≤ es.length + 1 := by
  unfold putE
  split <;> simp
theorem RepWs.dRep {G : Gx} {H : Hp} {Y : Addr → Prop} {α : List Addr} {w : W} {v : V} {j : NK} (hw : RepW G H Y α w v) : ∀ {ks : List NK} {ws : List W} {vs : List V}, RepWs G H Y α ws vs → RepWs G H Y α (dRep ks ws j w) (dRep ks vs j v)
  | [], ws, vs, h => by unfold Mi.dRep; exact h
  | k :: ks, [], vs, h => by unfold RepWs at h; subst h; unfold Mi.dRep; unfold RepWs; rfl
  | k :: ks, x :: ws, vs, h => by
    unfold RepWs at h
    obtain ⟨y, r, rfl, h1, h2⟩ := h
    unfold Mi.dRep
    refine RepWs.mkC ?_ (RepWs.dRep hw h2)
    split
    · exact hw
    · exact h1
theorem RepWs.put {G : Gx} {H : Hp} {Y : Addr → Prop} {α : List Addr} {w : W} {v : V} {j : NK} {ks : List NK} {ws : List W} {vs : List V} (hw : RepW G H Y α w v) (h : RepWs G H Y α ws vs) : RepWs G H Y α (putVs ks ws j w) (putVs ks vs j v) := by
  unfold putVs
  split
  · exact RepWs.dRep hw h
  · exact RepWs.append (RepWs.mk1 hw) h
section
variable {X : Cx} {pins : List (Addr × Obj)} {σ : L2.St} {H : Hp} {s : Shared} {F : Addr → Prop} {α : List Addr} {S : Sto}
theorem dn_ok {H' : Hp} {h' : Heap} {a : Addr} {es : List DnE} {us : List Value} (hl : es.length ≤ sizeLine) (hs : (a == sysModules) = false) (pr : Paired (fun (e : DnE) u => RelV e.v u) es us) (dd : h'.DictOfH (nestedKind X.prog X.w) a (dnX es us)) :
    ObjOk X.prog X.w H' h' a (DnO X.gx a es) := by
  obtain ⟨o, ar, ep, ho, hx, hd, he, _, hn⟩ := dd
  refine ⟨⟨hl, hs, by rw [← dnX_keys pr]; exact hn, us, o, ar, ep, pr, ho, hx, hd, by rw [he, List.map_map]; rfl⟩, ⟨o, ho⟩, fun h1 h2 p k => ?_⟩
  obtain ⟨p1, p2, p3, us', o', ar', ep', p4, p5, p6, p7, p8⟩ := p
  exact ⟨p1, p2, p3, us', o', ar', ep', p4, k _ p5, p6, p7, p8⟩
theorem dict_mut {Y : Addr → Prop} {a : Addr} {ks : List NK} {vs : List V} (h : DictAt X.gx H Y a (fun o => H a = some o) ks vs) : Mut (H a) := by
  rcases h with ⟨kvs, h, _⟩ | ⟨es, h, _⟩ | ⟨ps, h, _⟩
  · rw [h]; exact True.intro
  · rw [h]; exact True.intro
  · rw [h]; exact True.intro
def locD (S : Sto) : W → Option (Nat × List NK × List W)
  | .loc n => match S[n]? with
    | some (.dct ks ws) => some (n, ks, ws)
    | _ => none
  | _ => none
def qSetD : PrS := fun S o k v => match locD S o, tkey k with
  | some (n, ks, ws), some j => if (ks.all isTupK && decide (ks.length < 1000000)) = true then some (S.set n (.dct (putKs ks j) (putVs ks ws j v))) else none
  | _, _ => none
theorem dict_put {n : Nat} {a : Addr} {ks : List NK} {ws : List W} {vs : List V} {j : NK} {q : Addr} {w : W} {v : V} {h' : Heap} {es : List DnE} {us : List Value} {u : Value} {t' : Nat} (I : Inv X pins σ H s) (r : Rel X.gx F α S H) (ea : α[n]? = some a) (es' : S[n]? = some (.dct ks ws))
    (dt : DictAt X.gx H (XX F α S) a (fun o => H a = some o) ks vs) (hrep : RepWs X.gx H (XX F α S) α ws vs) (e1 : es.map DnE.k = ks) (e2 : es.map DnE.v = vs) (hk : ∀ e ∈ es, KeyOk H (XX F α S) e) (pr : Paired (fun (e : DnE) u => RelV e.v u) es us) (hsm : (a == sysModules) = false) (hle : es.length < sizeLine)
    (kj : (∃ l, j = .tup l) ∧ j.depth ≤ 8 ∧ KeyAt H (XX F α S) j (.ref q)) (hw : RepW X.gx H (XX F α S) α w v) (rv : RelV v u) (dd' : h'.DictOfH (nestedKind X.prog X.w) a (storedH (dnX es us) j q u)) (hs : Heap.SameBut a s.heap h') :
    ∃ H', Inv X pins σ H' { s with heap := h', toks := t' } ∧ Rel X.gx F α (S.set n (.dct (putKs ks j) (putVs ks ws j w))) H' ∧ Stp α S H α (S.set n (.dct (putKs ks j) (putVs ks ws j w))) H' := by
  obtain ⟨us', p', es2⟩ := stored_E (q := q) pr rv (j := j)
  rw [es2] at dd'
  have hl' : (putE es j q v).length ≤ sizeLine := by have := putE_len es j q v; omega
  have he : ∃ q, h'.get? a = some q := let ⟨q, _, _, hq, _⟩ := dd'; ⟨q, hq⟩
  have ok := dn_ok (X := X) (H' := upd H a (DnO X.gx a (putE es j q v))) hl' hsm p' dd'
  have st : Stay (XX F α S) (XX F α S) H (upd H a (DnO X.gx a (putE es j q v))) := upd_stay ea es' rfl
  obtain ⟨r2, s2⟩ := rel_set (o' := .dct (putKs ks j) (putVs ks ws j w)) (u := DnO X.gx a (putE es j q v)) r ea es' rfl rfl ⟨putVs ks vs j v, .inr (.inl ⟨putE es j q v, upd_same, by rw [putE_keys, e1], by rw [putE_vals, e1, e2], fun e he' => by
    obtain ⟨k1, k2, k3⟩ := putE_ok hk kj e he'
    exact ⟨k1, k2, k3.stay st⟩⟩), (RepWs.put hw hrep).stay st ⟨[], by simp⟩⟩
  exact ⟨_, d_write I (dict_mut dt) hs he ok, r2, s2⟩
theorem sq_dict (hu : X.A.units + 64 < cLine) : SetQ X qSetD := fun pins s σ H o i v ov iv u Q I ro ri rv z => by
  obtain ⟨F, α, S, wo, wi, wv, S', r, h1, h2, h3, e, k⟩ := z
  unfold qSetD at e
  split at e
  · rename_i n ks ws j el ek
    split at e
    · rename_i hc
      rw [Bool.and_eq_true] at hc
      cases e
      unfold locD at el
      split at el
      · rename_i n'
        split at el
        · rename_i ks' ws' es
          cases el
          unfold RepW at h1
          obtain ⟨a, ea, rfl⟩ := h1
          obtain ⟨qq, rfl, kj⟩ := tkey_at h2 ek
          cases (show ov = Value.ref a from ro)
          cases (show iv = Value.ref qq from ri)
          obtain ⟨vs, dt, hrep⟩ := r.obj n a _ ea es
          obtain ⟨es0, us, e1, e2, hk, pr, hsm, hle, dd⟩ := dict_H I (fun u z => I.hok a _ z) dt hc.1
          have hlen : es0.length < 1000000 := by
            have : es0.length = ks.length := by rw [← e1]; simp
            have h2 := of_decide_eq_true hc.2
            omega
          refine wpAny_setItem_heap (hsz := by rw [dnX_len pr]; exact hle) (hu8 hu) (key_is I kj.2.2 kj.2.1) dd fun h' dd' hs => ?_
          obtain ⟨H', I', r', s'⟩ := dict_put (t' := s.toks + (nestedKind X.prog X.w).draws j) I r ea es dt hrep e1 e2 hk pr hsm (thou' hlen) kj h3 rv dd' hs
          exact ⟨H', I', k α H' r' s'⟩
        · cases el
      · cases el
    · cases e
  · cases e
def dnM : ME := fun _ S => .ok (.loc S.length) (S ++ [.dct [] []])
theorem new_dct {H' : Hp} {a : Addr} {ks : List NK} {ws : List W} {vs : List V} (r : Rel X.gx F α S H) (sm : Same H H') (nx : H a = none) (hx : DictAt X.gx H' (XX F (α ++ [a]) (S ++ [.dct ks ws])) a (fun o => H' a = some o) ks vs) (h : RepWs X.gx H (XX F α S) α ws vs) :
    Rel X.gx F (α ++ [a]) (S ++ [.dct ks ws]) H' ∧ Stp α S H (α ++ [a]) (S ++ [.dct ks ws]) H' :=
  rel_snoc (o := .dct ks ws) r sm nx (by obtain ⟨o, e⟩ := hx.there; exact ⟨o, e⟩) ⟨vs, hx, h.stay (own_stay r sm nx) ⟨[a], rfl⟩⟩
theorem me_dnew {Wx : WX} {pos : Pos} : EE X Wx (.Dict [] [] pos) dnM := PE.imp pe_dnewK fun σ H Q ⟨F, α, S, τ, r, sl, f⟩ p np => by
  have sm : Same H (upd H p (.dK [])) := same_new np
  obtain ⟨r2, s2⟩ := new_dct (ks := []) (ws := []) (vs := []) r sm np (.inl ⟨[], upd_same, rfl, rfl⟩) (by unfold RepWs; rfl)
  exact f _ _ _ r2 s2 (by unfold rW RepW; exact ⟨p, by rw [← r.len]; simp, rfl⟩)
def qLenD : Pr := pure1 fun S x => match dctOf S x with
  | some (ks, _) => if ks.all isTupK = true then some (.d (.int ks.length)) else none
  | none => none
theorem cs_lenD : CallS X (.builtin "len") qLenD := fun pins s σ H vs us Q I rv q => by
  obtain ⟨F, α, S, ws, w, S', r, hw, e, k⟩ := id q
  obtain ⟨v, rfl⟩ : ∃ v, vs = [v] := by
    unfold qLenD pure1 at e
    split at e
    · have := hw.length
      match vs, this with
      | [v], _ => exact ⟨v, rfl⟩
    · cases e
  obtain ⟨F, α, S, wx, w, r, hx, e, k⟩ := rQ_one q
  split at e
  · rename_i ks ws ed
    split at e
    · rename_i ht
      cases e
      obtain ⟨a, vs, R, rfl, dt, _, hR⟩ := dctOf_at r hx ed
      obtain ⟨u, rfl, r1⟩ := vals1 rv
      cases (show u = Value.ref a from r1)
      obtain ⟨es, us, e1, e2, hk, pr, hsm, hle, dd⟩ := dict_H I (hR pins σ s I) dt ht
      have el : (dnX es us).length = ks.length := by rw [dnX_len pr, ← e1]; simp
      refine call_len_dictH hsm dd ?_ ⟨.int ks.length, H, I.tok _, ⟨_, by rw [el]⟩, k H _ (fun _ _ e => e) (rw_d (rep_int _))⟩
      rw [dnX_len pr]
      have := line63
      omega
    · cases e
  · cases e
end
end Mi
set_option Elab.async false
set_option linter.all false
set_option maxRecDepth 100000
set_option maxHeartbeats 4000000
namespace Mi
open PySem PySem.Spec PyProof.Rows L2 He Wl
theorem RepWs.reps {G : Gx} {H : Hp} {Y : Addr → Prop} {α : List Addr} : ∀ {xs : List D} {vs : List V}, RepWs G H Y α (xs.map .d) vs → Reps G H Y xs vs
  | [], vs, h => by unfold RepWs at h; unfold Reps; exact h
  | x :: xs, vs, h => by
    rw [List.map_cons] at h
    unfold RepWs at h
    obtain ⟨v, r, e, h1, h2⟩ := h
    unfold RepW at h1
    unfold Reps
    exact ⟨v, r, e, h1, RepWs.reps h2⟩
def frz1 (S : Sto) (n : Nat) : Sto := match S[n]? with
  | some (.dct ks ws) => (match onlyD ws with
    | some vs => S.set n (.fz (.dct ks vs))
    | none => S)
  | _ => S
def frzS (S : Sto) : Sto := (List.range S.length).foldl frz1 S
section
variable {X : Cx} {pins : List (Addr × Obj)} {σ : L2.St} {H : Hp} {s : Shared} {F : Addr → Prop} {α : List Addr} {S : Sto}
theorem rel_frz {G : Gx} {n : Nat} {a : Addr} {ks : List NK} {xs : List D} {vs : List V} {u : HO} {od : Obj} (r : Rel G F α S H) (ea : α[n]? = some a) (es : S[n]? = some (.dct ks (xs.map .d))) (hu : H a = some u)
    (dt : DictAt G H (XX F α S) a (fun o => o = u) ks vs) (hr : Reps G H (XX F α S) xs vs) :
    Rel G F α (S.set n (.fz (.dct ks xs))) (upd H a (.frz od u)) ∧ Stp α S H α (S.set n (.fz (.dct ks xs))) (upd H a (.frz od u)) := by
  have hn : n < S.length := (List.getElem?_eq_some_iff.mp es).1
  have oa : own α S a := ⟨n, _, ea, es, rfl⟩
  have ow : ∀ b, own α (S.set n (.fz (.dct ks xs))) b → own α S b ∧ b ≠ a := fun b ⟨i, o, e1, e2, e3⟩ => by
    by_cases hi : n = i
    · subst hi
      rw [List.getElem?_set_self hn] at e2
      cases e2; cases e3
    · rw [List.getElem?_set_ne hi] at e2
      exact ⟨⟨i, o, e1, e2, e3⟩, fun z => hi (by subst z; exact nodup_at r.nd ea e1)⟩
  have lx : ∀ b, XX F α (S.set n (.fz (.dct ks xs))) b → XX F α S b := fun b z => z.elim .inl fun z => .inr (ow b z).1
  have st : Stay (XX F α S) (XX F α (S.set n (.fz (.dct ks xs)))) H (upd H a (.frz od u)) := ⟨fun b o e q => by rw [upd_ne (fun z => q (by rw [z]; exact .inr oa))]; exact e, fun b o e z => lx b z⟩
  have there : ∀ b o, H b = some o → ∃ o', upd H a (.frz od u) b = some o' := fun b o e => by
    by_cases z : b = a
    · subst z; exact ⟨_, upd_same⟩
    · rw [upd_ne z]; exact ⟨o, e⟩
  refine ⟨⟨by simp [r.len], r.nd, r.fr, fun b z => ?_, fun i b e => ?_, fun i b o e1 e2 => ?_⟩, ⟨⟨[], by simp⟩, fun b o e q => by rw [upd_ne (fun z => q (by rw [z]; exact oa))]; exact e, fun b o e z => (ow b z).1⟩⟩
  · obtain ⟨o, e⟩ := r.fd b z; exact there b o e
  · obtain ⟨o, e⟩ := r.ad i b e; exact there b o e
  · by_cases hi : n = i
    · subst hi
      rw [List.getElem?_set_self hn] at e2
      cases e2
      rw [ea] at e1; cases e1
      show Rep G _ _ (.dct ks xs) (.ref a)
      unfold Rep
      refine ⟨a, vs, rfl, fun z => ?_, dt.stay st (fun o e => ⟨od, by subst e; exact upd_same⟩), hr.stay st⟩
      rcases z with z | z
      · exact r.noF ea z
      · exact (ow a z).2 rfl
    · rw [List.getElem?_set_ne hi] at e2
      have nb : b ≠ a := fun z => hi (by subst z; exact nodup_at r.nd ea e1)
      exact (r.obj i b o e1 e2).stay st ⟨[], by simp⟩ fun v e _ => by rw [upd_ne nb]; exact e
theorem frz_one (I : Inv X pins σ H s) (r : Rel X.gx F α S H) (n : Nat) : ∃ H', Inv X pins σ H' s ∧ Rel X.gx F α (frz1 S n) H' ∧ Stp α S H α (frz1 S n) H' := by
  unfold frz1
  split
  · rename_i ks ws es
    split
    · rename_i xs ex
      have := onlyD_eq ex
      subst this
      have hn : n < α.length := by rw [r.len]; exact (List.getElem?_eq_some_iff.mp es).1
      obtain ⟨a, ea⟩ : ∃ a, α[n]? = some a := ⟨α[n], by simp [hn]⟩
      obtain ⟨vs, dt, hr⟩ := r.obj n a _ ea es
      have mu := dict_mut dt
      obtain ⟨u, hu⟩ := dt.there
      obtain ⟨od, I'⟩ := I.lock hu (by rw [← hu]; exact mu)
      have dt' : DictAt X.gx H (XX F α S) a (fun o => o = u) ks vs := by
        rcases dt with ⟨kvs, h, e⟩ | ⟨es0, h, e⟩ | ⟨ps, h, e⟩
        · exact .inl ⟨kvs, Option.some.inj (h.symm.trans hu), e⟩
        · exact .inr (.inl ⟨es0, Option.some.inj (h.symm.trans hu), e⟩)
        · exact .inr (.inr ⟨ps, Option.some.inj (h.symm.trans hu), e⟩)
      obtain ⟨r', s'⟩ := rel_frz (od := od) r ea es hu dt' (RepWs.reps hr)
      exact ⟨_, I', r', s'⟩
    · exact ⟨H, I, r, Stp.refl⟩
  · exact ⟨H, I, r, Stp.refl⟩
theorem frz_fold : ∀ (ns : List Nat) {S : Sto} {H : Hp}, Inv X pins σ H s → Rel X.gx F α S H → ∃ H', Inv X pins σ H' s ∧ Rel X.gx F α (ns.foldl frz1 S) H' ∧ Stp α S H α (ns.foldl frz1 S) H'
  | [], S, H, I, r => ⟨H, I, r, Stp.refl⟩
  | n :: ns, S, H, I, r => by
    obtain ⟨H1, I1, r1, s1⟩ := frz_one I r n
    obtain ⟨H2, I2, r2, s2⟩ := frz_fold ns I1 r1
    exact ⟨H2, I2, r2, s1.trans s2⟩
theorem frz_all (I : Inv X pins σ H s) (r : Rel X.gx F α S H) : ∃ H', Inv X pins σ H' s ∧ Rel X.gx F α (frzS S) H' ∧ Stp α S H α (frzS S) H' := frz_fold _ I r
theorem ms_frz {Wx : WX} {st : Stmt} {m : MS} (h : ES X Wx st m) : ES X Wx st (fun τ S => m τ (frzS S)) := ⟨fun pins s σ H D I ⟨F, α, S, τ, r, sl, f⟩ => by
  obtain ⟨H', I', r', s'⟩ := frz_all I r
  exact h.run pins s σ H' D I' ⟨F, α, frzS S, τ, r', sl.stp s', FinS.stp s' f⟩⟩
end
end Mi
set_option Elab.async false
set_option linter.all false
set_option maxRecDepth 100000
set_option maxHeartbeats 4000000
namespace Mi
open PySem PySem.Spec PyProof.Rows L2 He Wl
def Ents (G : Gx) (d : Addr) (u : HO) (ps : List (V × V)) : Prop := ∀ (X : Cx), X.gx = G → ∀ (pins : List (Addr × Obj)) (σ : L2.St) (H : Hp) (s : Shared) (o : Obj), Inv X pins σ H s → H d = some (.frz o u) →
  (d == sysModules) = false ∧ ps.length ≤ sizeLine ∧ ∃ ar ep, o.data = .dict ar ep ∧ s.heap.DictRaw d ar ep ∧ ar.size = ps.length ∧ ∀ i (hi : i < ar.size), ∃ p, ps[i]? = some p ∧ RelV p.1 ar[i].key ∧ RelV p.2 ar[i].val
theorem pr_get : ∀ {es : List DnE} {us : List Value}, Paired (fun (e : DnE) u => RelV e.v u) es us → ∀ {i : Nat} {e : DnE}, es[i]? = some e → ∃ u, us[i]? = some u ∧ RelV e.v u
  | _, _, .nil, i, e, h => by simp at h
  | _, _, .cons r t, 0, e, h => by simp at h; subst h; exact ⟨_, rfl, r⟩
  | _, _, .cons r t, i + 1, e, h => by simpa using pr_get t (by simpa using h)
theorem ents_dn {G : Gx} {d : Addr} {es : List DnE} : Ents G d (DnO G d es) (es.map fun e => (.ref e.q, e.v)) := by
  rintro X rfl pins σ H s o I hd
  obtain ⟨hg, ⟨hl, hs, hn, us, o', ar, ep, r, ho, hx, hdt, he⟩, _⟩ := (show ObjOk X.prog X.w H s.heap d (.frz o (DnO X.gx d es)) from I.hok d _ hd)
  rw [hg] at ho; cases ho
  have hlen : ar.size = es.length := by
    have := congrArg List.length he
    simp only [Array.length_toList, List.length_map, List.length_zip] at this
    have h2 := Paired.length r
    omega
  refine ⟨hs, by simpa using hl, ar, ep, hdt, ⟨o, hg, hx, hdt⟩, by simpa using hlen, fun i hi => ?_⟩
  have hi2 : i < es.length := by omega
  have ee : es[i]? = some es[i] := by simp [hi2]
  obtain ⟨u, eu, ru⟩ := pr_get r ee
  refine ⟨(.ref es[i].q, es[i].v), by simp [ee], ?_⟩
  have hh : ar.toList[i]? = some ar[i] := by simp [hi]
  rw [he, List.getElem?_map] at hh
  have hz : (es.zip us)[i]? = some (es[i], u) := by
    rw [List.getElem?_zip_eq_some]
    exact ⟨ee, eu⟩
  rw [hz, Option.map_some] at hh
  have := Option.some.inj hh
  rw [← this]
  exact ⟨rfl, ru⟩
theorem ents_dK {G : Gx} {d : Addr} {kvs : List (Key × V)} : Ents G d (.dK kvs) (kvs.map fun p => (kV p.1, p.2)) := by
  rintro X rfl pins σ H s o I hd
  obtain ⟨hs, hgd, hx, es, ep, vs, hdt, hsz, kv, hm⟩ := I.frzK hd
  obtain ⟨_, hl, _⟩ := (show ObjOk X.prog X.w H s.heap d (.frz o (.dK kvs)) from I.hok d _ hd)
  obtain ⟨ar, ep', raw, hsz', hh⟩ := Heap.DictOf.raw hm.dictOf
  obtain ⟨o', ho', hx', hd'⟩ := id raw
  rw [hgd] at ho'; cases ho'
  obtain ⟨rfl, rfl⟩ := dict_ep hd' hdt
  have hlk : kvs.length = vs.length := Paired.length kv
  refine ⟨hs, by simpa using hl, _, _, hdt, raw, by simp [hsz', hlk], fun i hi => ?_⟩
  have hi2 : i < kvs.length := by omega
  have ek : kvs[i]? = some kvs[i] := by simp [hi2]
  obtain ⟨u, eu, ru⟩ := kv_get (k := kvs[i].1) (v := kvs[i].2) kv ek
  obtain ⟨g1, g2⟩ := hh i hi _ _ eu
  refine ⟨(kV kvs[i].1, kvs[i].2), by simp [ek], relV_key g1, by rw [g2]; exact ru⟩
def JI (d : Addr) (o : Obj) (u : HO) (ps : List (V × V)) : It := ⟨fun i H => H d = some (.frz o u) ∧ i < ps.length, fun i H x H' => ∃ T p, x = .ref T ∧ H T = none ∧ H' = upd H T (.tup [p.1, p.2]) ∧ ps[i]? = some p, fun i H => H d = some (.frz o u) ∧ i = ps.length⟩
def JV (f : V × V → V) (d : Addr) (o : Obj) (u : HO) (ps : List (V × V)) : It := ⟨fun i H => H d = some (.frz o u) ∧ i < ps.length, fun i H x H' => H' = H ∧ ∃ p, ps[i]? = some p ∧ x = f p, fun i H => H d = some (.frz o u) ∧ i = ps.length⟩
section
variable {P : Program} {w : World} {K : PySem.W.Frag} {d it : Addr} {o : Obj} {u : HO} {ps : List (V × V)} {ar : Array DictEntry} {ep : Nat}
theorem turn_JI {elts : List Expr} {kk : Nat} {tpos : Pos} (hE : Ents ⟨P, w, K⟩ d u ps) (hod : o.data = .dict ar ep) (hne : d ≠ it) :
    Turn P w K (.Tuple elts kk tpos) (JI d o u ps) [it] it (fun i h => ∃ ok ov, IsItemIter h it d i ps.length ep ok ov) where
  mem := by simp
  obj := fun i h st b hb => by
    have e : b = it := by simpa using hb
    subst e
    obtain ⟨ok, ov, e⟩ := st
    exact ⟨_, e, fun v z => nomatch z⟩
  keep := fun i h h' st k => let ⟨ok, ov, e⟩ := st; ⟨ok, ov, k it (by simp) _ e⟩
  item := by
    intro X hP hw hK hc i pins s σ H E I hf st hg
    subst hP hw hK
    obtain ⟨hd, hi⟩ := hg
    obtain ⟨hs, hl, ar', ep', hdt, raw, hsz, hh⟩ := hE X rfl pins σ H s o I hd
    obtain ⟨rfl, rfl⟩ := dict_ep hod hdt
    obtain ⟨ok, ov, he⟩ := st
    have hlt : it < s.heap.objs.size := Heap.lt_size he
    have Gz := GoesN.rawItems (prog := X.prog) (w := X.w) (A := X.A) (elts := elts) (x1 := kk) (pos := tpos) (I.ok.hd hc) it d hne ar' ep'
    refine Gz.goes i s _ E (by rw [hsz]; exact hi) ⟨⟨ok, ov, by rw [hsz]; exact he⟩, raw⟩ fun v h' tk hY st' hk htk => ?_
    obtain ⟨T, hi', rfl, hT, ht⟩ := hY
    obtain ⟨⟨ok', ov', st'⟩, _⟩ := st'
    obtain ⟨p, ep, r1, r2⟩ := hh i hi'
    have lt : ∀ b ∈ [it], b < s.heap.objs.size := fun b hb => by
      obtain rfl : b = it := by simpa using hb
      exact hlt
    obtain ⟨I1, nT, fr⟩ := new_tup (tk := tk) (ch := [it]) (vs := [p.1, p.2]) (us := [ar'[i].key, ar'[i].val]) I (fun b ob hb e => hk b ob (by simpa using hb) e) hf lt hT (.cons r1 (.cons r2 .nil)) (by show 2 ≤ sizeLine; decide) ht
    exact ⟨.ref T, _, I1, rfl, ⟨T, p, rfl, nT, rfl, ep⟩, ⟨ok', ov', by rw [← hsz]; exact st'⟩, fr⟩
  done := by
    intro X hP hw hK hc i pins s σ H E I hf st hg
    subst hP hw hK
    obtain ⟨hd, hi⟩ := hg
    obtain ⟨hs, hl, ar', ep', hdt, raw, hsz, hh⟩ := hE X rfl pins σ H s o I hd
    obtain ⟨rfl, rfl⟩ := dict_ep hod hdt
    obtain ⟨ok, ov, he⟩ := st
    have Gz := GoesN.rawItems (prog := X.prog) (w := X.w) (A := X.A) (elts := elts) (x1 := kk) (pos := tpos) (I.ok.hd hc) it d hne ar' ep'
    refine Gz.stops s _ E ⟨⟨ok, ov, by rw [hsz, ← hi] at *; exact he⟩, raw⟩ fun h' tk hk htk => ?_
    exact I.turnedL (t' := tk) (ch := [it]) (fun b ob hb e => hk b ob (by simpa using hb) e) hf
  self := fun A i s Q E st h => let ⟨_, _, e⟩ := st; PySem.W.kcp_self e h
theorem turn_JK {tg : Expr} (hE : Ents ⟨P, w, K⟩ d u ps) (hod : o.data = .dict ar ep) (hne : d ≠ it) : Turn P w K tg (JV Prod.fst d o u ps) [it] it (fun i h => h.IsKeyIter it d i ps.length ep) where
  mem := by simp
  obj := fun i h st b hb => by
    have e : b = it := by simpa using hb
    subst e
    obtain ⟨oi, e, c, dd⟩ := st
    exact ⟨oi, e, fun v z => by rw [dd] at z; cases z⟩
  keep := fun i h h' st k => st.at fun oi e => k it (by simp) oi e
  item := by
    intro X hP hw hK hc i pins s σ H E I hf st hg
    subst hP hw hK
    obtain ⟨hd, hi⟩ := hg
    obtain ⟨hs, hl, ar', ep', hdt, raw, hsz, hh⟩ := hE X rfl pins σ H s o I hd
    obtain ⟨rfl, rfl⟩ := dict_ep hod hdt
    have Gz := Goes.rawKeys (prog := X.prog) (w := X.w) (A := X.A) (target := tg) (I.ok.hd hc) it d hne ar' ep'
    refine Gz.goes i s _ E (by rw [hsz]; exact hi) ⟨by rw [hsz]; exact st, raw⟩ fun v h' tk hY st' hk htk => ?_
    obtain ⟨hi', rfl⟩ := hY
    obtain ⟨p, ep, r1, r2⟩ := hh i hi'
    have I1 : Inv X pins σ H { s with heap := h', toks := tk } := I.turnedL (t' := tk) (ch := [it]) (fun b ob hb e => hk b ob (by simpa using hb) e) hf
    exact ⟨p.1, H, I1, r1, ⟨rfl, p, ep, rfl⟩, by rw [← hsz]; exact st'.1, fun b hb => (hf b hb).1⟩
  done := by
    intro X hP hw hK hc i pins s σ H E I hf st hg
    subst hP hw hK
    obtain ⟨hd, hi⟩ := hg
    obtain ⟨hs, hl, ar', ep', hdt, raw, hsz, hh⟩ := hE X rfl pins σ H s o I hd
    obtain ⟨rfl, rfl⟩ := dict_ep hod hdt
    have Gz := Goes.rawKeys (prog := X.prog) (w := X.w) (A := X.A) (target := tg) (I.ok.hd hc) it d hne ar' ep'
    refine Gz.stops s _ E ⟨by rw [hsz, ← hi] at *; exact st, raw⟩ fun h' tk hk htk => ?_
    exact I.turnedL (t' := tk) (ch := [it]) (fun b ob hb e => hk b ob (by simpa using hb) e) hf
  self := fun A i s Q E st h => wpAny_pyIter_keyiter st h
end
section
variable {X : Cx} {tg e : Expr} {td : TE} {apos cpos : Pos}
def iFz (G : Gx) (J : Addr → Obj → HO → List (V × V) → It) (td : TE) : TI := fun σ H R => td σ H fun x H1 => ∃ d o u ps, x = .ref d ∧ H1 d = some (.frz o u) ∧ Ents G d u ps ∧ R (J d o u ps) H1
theorem pi_keysF (he : PE X e td) : PI X tg e (iFz X.gx (JV Prod.fst) td) := by
  refine ⟨fun pins s σ H R I h => ?_⟩
  refine thn (he.run pins s σ H _ I h) fun v s1 ⟨x, H1, I1, rx, d, o, u, ps, ex, hd, hE, q⟩ => ?_
  subst ex
  obtain rfl : v = Value.ref d := rx
  obtain ⟨hs, hl, ar, ep, hdt, raw, hsz, _⟩ := hE X rfl pins σ H1 s1 o I1 hd
  have hne : d ≠ s1.heap.objs.size := Nat.ne_of_lt (let ⟨_, ho, _⟩ := raw; Heap.lt_size ho)
  refine wpAny_pyIter_dict_raw hs raw (pi_one (tk := s1.toks) I1 _ (turn_JK hE hdt hne) ⟨_, Heap.get?_push_size _ rfl, rfl, ?_⟩ q)
  rw [← hsz] <;> rfl
theorem pi_itemsF {elts : List Expr} {kk : Nat} {tpos : Pos} (he : PE X e td) (hbase : attributeBase e "items" X.env (eval e X.env) = eval e X.env := by rfl) (hline : (apos.endLine == cpos.line) = true := by rfl) :
    PI X (.Tuple elts kk tpos) (.Call (.Attribute e "items" apos) [] [] cpos) (iFz X.gx JI td) := by
  refine ⟨fun pins s σ H R I h => ?_⟩
  refine wpAny_Call_method (T := "dict") (id := "dict.items") hbase rfl hline F.plainAttrs_dict F.slot_dict_items F.type_dict_items (thn (he.run pins s σ H _ I h) fun v s1 ⟨x, H1, I1, rx, d, o, u, ps, ex, hd, hE, q⟩ => ?_)
  subst ex
  obtain rfl : v = Value.ref d := rx
  obtain ⟨hs, hl, ar, ep, hdt, raw, hsz, _⟩ := hE X rfl pins σ H1 s1 o I1 hd
  obtain ⟨ob, ho, hx, hdat⟩ := id raw
  have hlt : d < s1.heap.objs.size := Heap.lt_size ho
  refine ⟨raw.typeIs, (fun b z => by cases z; exact ⟨ob, ho, hx.2.1⟩), ?_⟩
  have I2 : Inv X pins σ H1 { s1 with heap := s1.heap.push { cls := .type "dict_items", data := .fields #[.ref d] } } := I1.kept (t' := s1.toks) fun b ob q => Heap.get?_push_of_some _ q
  have raw2 : (s1.heap.push { cls := .type "dict_items", data := .fields #[.ref d] }).DictRaw d ar ep := raw.at fun o e => Heap.get?_push_of_some _ e
  have fin : wpAny (model X.prog X.w) X.A (pyIter (.ref s1.heap.objs.size)) (PIE X pins σ (.Tuple elts kk tpos) R) X.xe { s1 with heap := s1.heap.push { cls := .type "dict_items", data := .fields #[.ref d] } } := by
    refine wpAny_pyIter_items_raw (d := d) ⟨_, Heap.get?_push_size _ rfl, rfl, rfl⟩ raw2 (pi_one (tk := s1.toks) I2 _ (turn_JI hE hdt (Nat.ne_of_lt (Nat.lt_of_lt_of_le hlt (by simp [Heap.push])))) ⟨.none, .none, ?_⟩ q)
    rw [← hsz]
    exact Heap.get?_push_size _ rfl
  show wpAny _ _ (callWith cpos (.builtin "dict.items") [.ref d] [] []) _ X.xe s1
  exact method_meetsIn F.slot_dict_items F.entry_dict_items rfl (PySem.evalArgs_none ⟨rfl, raw.typeIs, F.args_dict_items_1 _, _, DT.meetsItems (es := ar) (ep := ep) hs, raw, fin⟩)
end
end Mi
set_option Elab.async false
set_option linter.all false
set_option maxRecDepth 100000
set_option maxHeartbeats 4000000
namespace Mi
open PySem PySem.Spec PyProof.Rows L2 He Wl
mutual
def kD : NK → D
  | .none => .non
  | .num i => .int i
  | .text x => .str x
  | .tup ks => .tup (kDs ks)
def kDs : List NK → List D
  | [] => []
  | k :: ks => kD k :: kDs ks
end
mutual
theorem kD_at {G : Gx} {H : Hp} {Y : Addr → Prop} : ∀ {k : NK} {v : V}, KeyAt H Y k v → Rep G H Y (kD k) v
  | .none, v, h => by unfold KeyAt at h; unfold kD Rep; exact h
  | .num i, v, h => by unfold KeyAt at h; unfold kD Rep; exact h
  | .text i, v, h => by unfold KeyAt at h; unfold kD Rep; exact h
  | .tup ks, v, h => by
    unfold KeyAt at h
    obtain ⟨a, vs, e, n, h1, h2⟩ := h
    unfold kD Rep
    exact ⟨a, vs, e, n, h1, kDs_at h2⟩
theorem kDs_at {G : Gx} {H : Hp} {Y : Addr → Prop} : ∀ {ks : List NK} {vs : List V}, KeysAt H Y ks vs → Reps G H Y (kDs ks) vs
  | [], vs, h => by unfold KeysAt at h; unfold kDs Reps; exact h
  | k :: ks, vs, h => by
    unfold KeysAt at h
    obtain ⟨v, r, e, h1, h2⟩ := h
    unfold kDs Reps
    exact ⟨v, r, e, kD_at h1, kDs_at h2⟩
end
def frzOf (S : Sto) : W → Option (List NK × List D)
  | .d (.dct ks vs) => some (ks, vs)
  | .loc n => match S[n]? with
    | some (.fz (.dct ks vs)) => some (ks, vs)
    | _ => none
  | _ => none
section
variable {G : Gx} {F : Addr → Prop} {α : List Addr} {S : Sto} {H : Hp}
theorem frzOf_at {w : W} {v : V} {ks : List NK} {xs : List D} (r : Rel G F α S H) (h : RepW G H (XX F α S) α w v) (e : frzOf S w = some (ks, xs)) : Rep G H (XX F α S) (.dct ks xs) v := by
  unfold frzOf at e
  split at e
  · cases e
    unfold RepW at h
    exact h
  · rename_i n
    unfold RepW at h
    obtain ⟨a, ea, rfl⟩ := h
    split at e
    · rename_i es
      cases e
      exact r.obj n a _ ea es
    · cases e
  · cases e
theorem keysAt_len {Y : Addr → Prop} : ∀ {ks : List NK} {vs : List V}, KeysAt H Y ks vs → ks.length = vs.length
  | [], vs, h => by unfold KeysAt at h; subst h; rfl
  | k :: ks, vs, h => by
    unfold KeysAt at h
    obtain ⟨v, r, rfl, _, h2⟩ := h
    rw [List.length_cons, List.length_cons, keysAt_len h2]
theorem keysAt_get {Y : Addr → Prop} : ∀ {ks : List NK} {vs : List V} {i : Nat} {v : V}, KeysAt H Y ks vs → vs[i]? = some v → ∃ k, ks[i]? = some k ∧ KeyAt H Y k v
  | [], vs, i, v, h, e => by unfold KeysAt at h; subst h; simp at e
  | k :: ks, vs, i, v, h, e => by
    unfold KeysAt at h
    obtain ⟨v0, r, rfl, h1, h2⟩ := h
    cases i with
    | zero => simp at e; subst e; exact ⟨k, rfl, h1⟩
    | succ i => simpa using keysAt_get h2 (by simpa using e)
theorem ents_mx {d : Addr} {ps : List (V × V)} : Ents G d (MxO d ps) ps := by
  rintro X rfl pins σ H s o I hd
  obtain ⟨hg, ⟨hl, hs, o', ar, ep, ho, hx, hdt, hz, hh⟩, _⟩ := (show ObjOk X.prog X.w H s.heap d (.frz o (MxO d ps)) from I.hok d _ hd)
  rw [hg] at ho; cases ho
  exact ⟨hs, hl, ar, ep, hdt, ⟨o, hg, hx, hdt⟩, hz, hh⟩
theorem dict_ents {Y : Addr → Prop} {a : Addr} {ks : List NK} {vs : List V} (h : DictAt G H Y a (fun u => ∃ o, H a = some (.frz o u)) ks vs) : ∃ o u ps, H a = some (.frz o u) ∧ Ents G a u ps ∧ ps.length = ks.length ∧ ks.length = vs.length ∧ ∀ (i : Nat) (p : V × V), ps[i]? = some p → ∃ k, ks[i]? = some k ∧ vs[i]? = some p.2 ∧ Rep G H Y (kD k) p.1 := by
  rcases h with ⟨kvs, ⟨o, h⟩, e1, e2⟩ | ⟨es, ⟨o, h⟩, e1, e2, hk⟩ | ⟨ps, ⟨o, h⟩, e1, e2, e3⟩
  rotate_left 2
  · subst e2
    have hk := keysAt_len e1
    rw [List.length_map] at hk
    refine ⟨o, _, ps, h, ents_mx, hk.symm, by rw [hk, List.length_map], fun i p e => ?_⟩
    obtain ⟨k, ek, hk2⟩ := keysAt_get e1 (i := i) (v := p.1) (by rw [List.getElem?_map, e]; rfl)
    exact ⟨k, ek, by simp [e], kD_at hk2⟩
  · subst e1 e2
    refine ⟨o, _, _, h, ents_dK, by simp, by simp, fun i p e => ?_⟩
    rw [List.getElem?_map, Option.map_eq_some_iff] at e
    obtain ⟨q, e, rfl⟩ := e
    refine ⟨nkK q.1, by simp [e], by simp [e], ?_⟩
    cases q.1 with
    | inl i => unfold nkK kD Rep; rfl
    | inr x => unfold nkK kD Rep; rfl
  · subst e1 e2
    refine ⟨o, _, _, h, ents_dn, by simp, by simp, fun i p e => ?_⟩
    rw [List.getElem?_map, Option.map_eq_some_iff] at e
    obtain ⟨q, e, rfl⟩ := e
    exact ⟨q.k, by simp [e], by simp [e], kD_at (hk q (List.mem_of_getElem? e)).2.2⟩
theorem Reps.get {Y : Addr → Prop} : ∀ {xs : List D} {vs : List V} {i : Nat} {x : D}, Reps G H Y xs vs → xs[i]? = some x → ∃ v, vs[i]? = some v ∧ Rep G H Y x v
  | [], vs, i, x, h, e => by simp at e
  | y :: xs, vs, i, x, h, e => by
    unfold Reps at h
    obtain ⟨v, r, rfl, h1, h2⟩ := h
    cases i with
    | zero => simp at e; subst e; exact ⟨v, rfl, h1⟩
    | succ i => simpa using Reps.get h2 (by simpa using e)
end
def kvW : List NK → List D → List W
  | k :: ks, x :: xs => .d (.tup [kD k, x]) :: kvW ks xs
  | _, _ => []
theorem kvW_get : ∀ {ks : List NK} {xs : List D} {i : Nat} {w : W}, (kvW ks xs)[i]? = some w → ∃ k x, ks[i]? = some k ∧ xs[i]? = some x ∧ w = .d (.tup [kD k, x])
  | [], xs, i, w, e => by simp [kvW] at e
  | k :: ks, [], i, w, e => by simp [kvW] at e
  | k :: ks, x :: xs, 0, w, e => by simp [kvW] at e; exact ⟨k, x, rfl, rfl, e.symm⟩
  | k :: ks, x :: xs, i + 1, w, e => by simpa using kvW_get (ks := ks) (xs := xs) (i := i) (by simpa [kvW] using e)
theorem kvW_len : ∀ {ks : List NK} {xs : List D}, ks.length = xs.length → (kvW ks xs).length = ks.length
  | [], [], _ => rfl
  | k :: ks, x :: xs, h => by simp [kvW, kvW_len (ks := ks) (xs := xs) (by simpa using h)]
def itsM (m : ME) : MA := fun τ S => (m τ S).bind fun w S1 => match frzOf S1 w with
  | some (ks, xs) => .ok (kvW ks xs) S1
  | none => .no
def kysM (m : ME) : MA := fun τ S => (m τ S).bind fun w S1 => match frzOf S1 w with
  | some (ks, _) => .ok (ks.map fun k => .d (kD k)) S1
  | none => .no
section
variable {X : Cx} {Wx : WX} {e tg : Expr} {m : ME} {pos apos cpos : Pos}
theorem mi_items {elts : List Expr} {kk : Nat} {tpos : Pos} (he : EE X Wx e m) (hbase : attributeBase e "items" X.env (eval e X.env) = eval e X.env := by rfl) (hline : (apos.endLine == cpos.line) = true := by rfl) :
    EI X Wx (.Tuple elts kk tpos) (.Call (.Attribute e "items" apos) [] [] cpos) (itsM m) := PI.imp (pi_itemsF he hbase hline) fun σ H R h => by
  refine tIt_then (R := rW X.gx) (k := fun w _ S1 => match frzOf S1 w with
    | some (ks, xs) => .ok (kvW ks xs) S1
    | none => .no) h fun v H1 F α S τ w r sl rw' f => ?_
  split at f
  · rename_i ks xs ef
    have hd := frzOf_at r rw' ef
    unfold Rep at hd
    obtain ⟨a, vs, rfl, na, dt, hr⟩ := hd
    obtain ⟨o, u, ps, ha, hE, l1, l2, hp⟩ := dict_ents dt
    have hlx : ks.length = xs.length := by rw [l2, hr.length]
    refine ⟨a, o, u, ps, rfl, ha, hE, f α H1 _ r Stp.refl fun F' hF => ?_⟩
    intro i β S3 H3 r3 s3
    have kp : ∀ b u, H1 b = some u → ¬ XX F α S b → H3 b = some u := fun b u e n => s3.keep b u e (fun z => (hF b z).elim (fun z => n (.inl z)) fun z => by rw [z] at e; cases e) fun z => n (.inr z)
    have st : Stay (XX F α S) (XX F' β S3) H1 H3 := ⟨kp, fun b u e z => by
      rcases z with z | z
      · rcases hF b z with z | z
        · exact .inl z
        · rw [z] at e; cases e
      · by_cases hf : F' b
        · rcases hF b hf with z | z
          · exact .inl z
          · rw [z] at e; cases e
        · exact .inr (s3.less b u e hf z)⟩
    have ha3 := kp a _ ha na
    refine ⟨fun ei => ⟨ha3, by rw [ei, kvW_len hlx, l1]⟩, fun w ew => ?_⟩
    have hi := (List.getElem?_eq_some_iff.mp ew).1
    rw [kvW_len hlx] at hi
    refine ⟨⟨ha3, by rw [l1]; exact hi⟩, fun x H' y => ?_⟩
    obtain ⟨T, p, rfl, nT, rfl, epi⟩ := y
    obtain ⟨k, x, ek, ex, rfl⟩ := kvW_get ew
    obtain ⟨k', ek', ev, rk⟩ := hp i p epi
    rw [ek] at ek'; cases ek'
    obtain ⟨v, ev', rv⟩ := hr.get ex
    rw [ev] at ev'; cases ev'
    have sn : Stay (XX F α S) (XX F' β S3) H1 (upd H3 T (.tup [p.1, p.2])) := ⟨fun b o e n => same_new nT b o (st.keep b o e n), st.less⟩
    refine ⟨same_new nT, rw_d ?_⟩
    unfold Rep
    refine ⟨T, [p.1, p.2], rfl, r3.fresh nT, upd_same, ?_⟩
    unfold Reps
    refine ⟨p.1, [p.2], rfl, rk.stay sn, ?_⟩
    unfold Reps
    exact ⟨p.2, [], rfl, rv.stay sn, by unfold Reps; rfl⟩
  · exact f.elim
theorem mi_keys (he : EE X Wx e m) : EI X Wx tg e (kysM m) := PI.imp (pi_keysF he) fun σ H R h => by
  refine tIt_then (R := rW X.gx) (k := fun w _ S1 => match frzOf S1 w with
    | some (ks, _) => .ok (ks.map fun k => .d (kD k)) S1
    | none => .no) h fun v H1 F α S τ w r sl rw' f => ?_
  split at f
  · rename_i ks xs ef
    have hd := frzOf_at r rw' ef
    unfold Rep at hd
    obtain ⟨a, vs, rfl, na, dt, hr⟩ := hd
    obtain ⟨o, u, ps, ha, hE, l1, l2, hp⟩ := dict_ents dt
    refine ⟨a, o, u, ps, rfl, ha, hE, f α H1 _ r Stp.refl fun F' hF => ?_⟩
    intro i β S3 H3 r3 s3
    have kp : ∀ b u, H1 b = some u → ¬ XX F α S b → H3 b = some u := fun b u e n => s3.keep b u e (fun z => (hF b z).elim (fun z => n (.inl z)) fun z => by rw [z] at e; cases e) fun z => n (.inr z)
    have st : Stay (XX F α S) (XX F' β S3) H1 H3 := ⟨kp, fun b u e z => by
      rcases z with z | z
      · rcases hF b z with z | z
        · exact .inl z
        · rw [z] at e; cases e
      · by_cases hf : F' b
        · rcases hF b hf with z | z
          · exact .inl z
          · rw [z] at e; cases e
        · exact .inr (s3.less b u e hf z)⟩
    have ha3 := kp a _ ha na
    refine ⟨fun ei => ⟨ha3, by rw [ei, List.length_map, l1]⟩, fun w ew => ?_⟩
    have hi := (List.getElem?_eq_some_iff.mp ew).1
    rw [List.length_map] at hi
    refine ⟨⟨ha3, by rw [l1]; exact hi⟩, fun x H' y => ?_⟩
    obtain ⟨rfl, p, epi, rfl⟩ := y
    rw [List.getElem?_map, Option.map_eq_some_iff] at ew
    obtain ⟨k, ek, rfl⟩ := ew
    obtain ⟨k', ek', ev, rk⟩ := hp i p epi
    rw [ek] at ek'; cases ek'
    exact ⟨fun _ _ e => e, rw_d (rk.stay st)⟩
  · exact f.elim
end
end Mi
set_option Elab.async false
set_option linter.all false
set_option maxRecDepth 100000
set_option maxHeartbeats 4000000
namespace Mi
open PySem PySem.Spec PyProof.Rows L2 He Wl
abbrev TPut := Addr → V → V → Hp → (Hp → Prop) → Prop
def PutOk (X : Cx) (put : TPut) : Prop := ∀ (X' : Cx), X'.gx = X.gx → X'.A = X.A → ∀ (pins : List (Addr × Obj)) (σ : L2.St) (H : Hp) (s : Shared) (D : Addr) (y z : V) (u r : Value) (Nx : Hp → Prop) (Q : Unit → Shared → Prop) (E : Value → Shared → Prop), Inv X' pins σ H s → RelV y u → RelV z r → put D y z H Nx →
  (∀ H' s', Inv X' pins σ H' s' → Nx H' → Q () s') → wpAny (model X.prog X.w) X.A (dictSet D u r) Q E s
def tDcG (put : TPut) (wi : TI) (g : TG) (tt : TT) (tk tv : TE) (vs : List Nat) : TE := fun σ H Q => wi σ H fun J H1 => ∀ D, H1 D = none → ∃ Wn : Nat → Nat → Hp → Prop, (∃ m, Wn 0 m (upd H1 D (.dK []))) ∧ ∀ i m H, Wn i m H →
  (J.stop i H ∧ Q (.ref D) H) ∨ (J.go i H ∧ ∃ Nx : Hp → Prop, (∀ H', Nx H' → ∃ m', m' < m ∧ Wn (i + 1) m' H') ∧ ∀ x H', J.yld i H x H' → g x (wipe σ vs) H' fun σ2 H2 => wipe σ2 vs = wipe σ vs ∧ tt σ2 H2 fun b H3 =>
    if b = true then tk σ2 H3 fun y H4 => tv σ2 H4 fun z H5 => put D y z H5 Nx else Nx H3)
section
variable {X : Cx}
theorem dcG_run {pins : List (Addr × Obj)} {s : Shared} {σ : L2.St} {H : Hp} {Q : VK} {put : TPut} {kx vx tg iter : Expr} {ifs : List Expr} {scope : Scope} {own : List (Str × Nat)} {pos pos' : Pos} {wi : TI} {g : TG} {tt : TT} {tk tv : TE} {use : Option (Value → Sem Unit)} {Qf : Value → Shared → Prop}
    (hp : PutOk X put) (hc : X.calm = true) (hN : X.N.Nodup) (I : Inv X pins σ H s) (hi : PI X tg iter wi) (ok : BlkOk X.N X.env.scope scope own)
    (hg : ∀ (s : Shared) (H : Hp) (C : Addr) (cl : List (Str × Addr)) (fp : List Addr), PG (X.blk s H scope (compEnvC scope cl C X.env) fp) tg g) (ht : ∀ (s : Shared) (H : Hp) (C : Addr) (cl : List (Str × Addr)) (fp : List Addr), PTs (X.blk s H scope (compEnvC scope cl C X.env) fp) ifs tt)
    (hk : ∀ (s : Shared) (H : Hp) (C : Addr) (cl : List (Str × Addr)) (fp : List Addr), PE (X.blk s H scope (compEnvC scope cl C X.env) fp) kx tk)
    (he : ∀ (s : Shared) (H : Hp) (C : Addr) (cl : List (Str × Addr)) (fp : List Addr), PE (X.blk s H scope (compEnvC scope cl C X.env) fp) vx tv) (hs : ∀ x, foldedSetIterable iter X.env x = pure x)
    (h : tDcG put wi g tt tk tv (own.map (·.2)) σ H Q)
    (fin : ∀ D C s' m H', Inv X pins σ H' s' → Q (.ref D) H' → s'.heap.Ns C m → FpOk X pins H' C → compPost (model X.prog X.w) X.A X.xe use Qf (.ref D) C (.ok .next) s') :
    wpAny (model X.prog X.w) X.A (comprehension (.DictComp kx vx [⟨tg, iter, ifs, 0⟩] scope pos) scope X.env pos' newDict false (eval iter X.env) use) Qf X.xe s := by
  have free : ∀ y ∈ scope.names, y.2 = .free → ∃ c, X.env.cells.lookup y.1 = some c := fun y hy e => (ok.free y hy e).elim (fun k => I.ok.has _ (.inl k)) fun k => I.ok.has _ (.inr k)
  refine wpAny_comprehension_free (use := use) rfl hs (closure_ok free) ok.kind (fun y hy e => by rw [ok.uniq y hy, e]) (thn (hi.run pins s σ H _ I h) fun _ s1 hx => thn hx fun _ s2 ⟨it, fp, tn, J, H2, e, I2, T, st2, f2, q⟩ => ?_)
  subst e
  refine wpAny_newObj_type (newEnv_comp ?_)
  generalize hD : s2.heap.objs.size = D
  have nD : H2 D = none := I2.hok.fresh (Nat.le_of_eq hD)
  obtain ⟨Wn, ⟨m0, w0⟩, turn⟩ := q D nD
  generalize hs3 : ({ s2 with heap := s2.heap.push { cls := .type "dict", data := .dict #[] } } : Shared) = s3
  have e3 : s3.heap = s2.heap.push { cls := .type "dict", data := .dict #[] } := by rw [← hs3]
  have I3 : Inv X pins σ (upd H2 D (.dK [])) s3 := by
    rw [← hs3]
    exact I2.laid (t' := s2.toks) (fun b o e => Heap.get?_push_of_some _ e) (Nat.le_of_eq hD) (by rw [← hD]; exact dk_empty s2.heap I2.big)
  have lt2 : ∀ b ∈ fp, b < s2.heap.objs.size := fun b hb => let ⟨o, e, _⟩ := T.obj _ _ st2 b hb; Heap.lt_size e
  have f3 : ∀ b ∈ fp, FpOk X pins (upd H2 D (.dK [])) b ∧ b < s3.heap.objs.size := fun b hb =>
    ⟨⟨by rw [upd_ne (by rw [← hD]; exact Nat.ne_of_lt (lt2 b hb))]; exact (f2 b hb).1, (f2 b hb).2⟩, by rw [e3, Heap.size_push]; exact Nat.lt_succ_of_lt (lt2 b hb)⟩
  have st3 : tn 0 s3.heap := T.keep _ _ _ st2 fun b _ o e => by rw [e3]; exact Heap.get?_push_of_some _ e
  have I4 := block_start I3 ok hN f3
  generalize hcl : cellsFrom (s3.heap.objs.size + 1) scope.names (cloFrom X.env.cells scope.names []) = cl at I4
  have pg := hg s3 (upd H2 D (.dK [])) s3.heap.objs.size cl fp
  have pt := ht s3 (upd H2 D (.dK [])) s3.heap.objs.size cl fp
  have pk := hk s3 (upd H2 D (.dK [])) s3.heap.objs.size cl fp
  have pe := he s3 (upd H2 D (.dK [])) s3.heap.objs.size cl fp
  show codeAny _ _ (.compStart (.DictComp kx vx [⟨tg, iter, ifs, 0⟩] scope pos) 0 (.ref it) (.ref D) (compEnvC scope cl s3.heap.objs.size X.env)) (compPost (model X.prog X.w) X.A X.xe use Qf (.ref D) s3.heap.objs.size) { s3 with heap := pushCells (s3.heap.push { cls := .type "dict", data := .dict #[] }) scope.names }
  have nfp : ∀ b ∈ fp, (upd H2 D (.dK [])) b = none := fun b hb => (f3 b hb).1.1
  generalize hce : compEnvC scope cl s3.heap.objs.size X.env = ce at I4 pg pt pk pe ⊢
  have cL : ce.locals = s3.heap.objs.size := by subst hce; rfl
  generalize hH3 : upd H2 D (.dK []) = H3 at I3 I4 pg pt pk pe w0 nfp f3
  generalize hs4 : ({ s3 with heap := pushCells (s3.heap.push { cls := .type "dict", data := .dict #[] }) scope.names } : Shared) = s4 at I4 ⊢
  have st4 : tn 0 s4.heap := T.keep _ _ _ st3 fun b _ o e => by rw [← hs4]; exact pushCells_keeps _ _ _ _ (Heap.get?_push_of_some _ e)
  generalize hB : X.blk s3 H3 scope ce fp = B at I4 pg pt pk pe
  have bP : B.prog = X.prog := by subst hB; rfl
  have fpB : ∀ {pins' : List (Addr × Obj)} {σ' : L2.St} {H' : Hp} {s' : Shared}, Inv B [] σ' H' s' → (∀ b ∈ fp, H' b = none) → ∀ b ∈ fp, FpOk B [] H' b := by
    subst hB
    exact fun {pins' σ' H' s'} I' hn b hb => ⟨hn b hb, (I'.ok.exf b hb).1, I'.ok.exfs b hb, .inl hb, fun x c e => (I'.ok.exf b hb).2 x c e, fun p hp => absurd (show p ∈ ([] : List (Addr × Obj)) ++ [] from hp) (by simp)⟩
  have loop : codeAny (model X.prog X.w) X.A (.compLoop (.DictComp kx vx [⟨tg, iter, ifs, 0⟩] scope pos) 0 (.ref it) (.ref D) ce) (compPost (model X.prog X.w) X.A X.xe use Qf (.ref D) s3.heap.objs.size) s4 := by
    refine compLoop_anyD (fun n s' => ∃ i H', Inv B [] (wipe σ (own.map (·.2))) H' s' ∧ tn i s'.heap ∧ (∀ b ∈ fp, H' b = none) ∧ Wn i n H') ?_ m0 ⟨0, H3, I4, st4, nfp, w0⟩
    rintro n s5 ⟨i, H5, I5, st5, n5, w5⟩
    subst hB
    rcases turn i n H5 w5 with ⟨stop, qq⟩ | ⟨go, Nx, hNx, step⟩
    · refine thnF (T.done (X.blk s3 H3 scope ce fp) rfl rfl rfl hc i [] s5 _ H5 (fun _ _ => False) I5 (fpB (pins' := []) I5 n5) st5 stop) fun r s6 ⟨hr, I6⟩ => ?_
      subst hr
      obtain ⟨m, hn, _⟩ := I6.loc
      have nC : H5 s3.heap.objs.size = none := by rw [← cL]; exact I6.free
      exact fin D s3.heap.objs.size s6 m H5 (I3.call' (ch := fp) I6.os I6.base I6.hok I6.bare fun b hb => ⟨(f3 b hb).1.2.2.2.1, (f3 b hb).1.2.1, (f3 b hb).1.2.2.2.2.1, (f3 b hb).1.2.2.2.2.2⟩) qq (by rw [← cL]; exact hn) (I3.fpOk (Nat.le_refl _) nC)
    · refine thnF (T.item (X.blk s3 H3 scope ce fp) rfl rfl rfl hc i [] s5 _ H5 (fun _ _ => False) I5 (fpB (pins' := []) I5 n5) st5 go) fun r s6 ⟨u, hr, h6⟩ => ?_
      subst hr
      refine thnF h6 fun _ s7 ⟨x, H7, I7, r7, y7, st7, n7⟩ => ?_
      refine thnF (pg.run _ s7 _ H7 x u _ (I7.pinned (fpB (pins' := []) I7 n7) (T.obj _ _ st7)) r7 (step x H7 y7)) fun _ s8 ⟨σ8, H8, I8, hw8, q8⟩ => ?_
      refine thnF (pt.run _ s8 σ8 H8 _ I8 q8) fun b s9 ⟨H9, I9, q9⟩ => ?_
      have next : ∀ {s' : Shared} {H' : Hp}, Inv (X.blk s3 H3 scope ce fp) ([] ++ pinsAt fp s7.heap) σ8 H' s' → Nx H' → ∃ m, m < n ∧ ∃ i H', Inv (X.blk s3 H3 scope ce fp) [] (wipe σ (own.map (·.2))) H' s' ∧ tn i s'.heap ∧ (∀ b ∈ fp, H' b = none) ∧ Wn i m H' := fun {s' H'} I' nx => by
        obtain ⟨m', hm, w'⟩ := hNx H' nx
        have pin' : ∀ b ∈ fp, ∀ o, s7.heap.get? b = some o → s'.heap.get? b = some o ∧ H' b = none := fun b hb o e =>
          let z := I'.pin (b, o) (List.mem_append_right _ (List.mem_append_right _ (mem_pinsAt hb e)))
          ⟨z.1, z.2.1⟩
        refine ⟨m', hm, i + 1, H', (I'.unpinned (pins := [])).weak (by rw [← hw8, wipe_length]) (fun j v e => ?_), T.keep _ _ _ st7 fun b hb o e => (pin' b hb o e).1, fun b hb => ?_, w'⟩
        · rw [← hw8] at e
          exact (wipe_some e).1
        · obtain ⟨o, e, _⟩ := T.obj _ _ st7 b hb
          exact (pin' b hb o e).2
      cases b with
      | false => exact next I9 (by simpa using q9)
      | true =>
        simp only [if_true] at q9 ⊢
        refine thnF (pk.run _ s9 σ8 H9 _ I9 q9) fun z s10 ⟨yk, H10, I10, r10, q10⟩ => ?_
        refine thnF (pe.run _ s10 σ8 H10 _ I10 q10) fun z2 s11 ⟨yv, H11, I11, r11, q11⟩ => ?_
        exact hp (X.blk s3 H3 scope ce fp) rfl rfl _ σ8 H11 s11 D yk yv z z2 Nx _ _ I11 r10 r11 q11 fun H' s' I' nx => next I' nx
  exact codeAny_compStart_dict loop (T.self X.A 0 _ _ _ st4 loop)
theorem pe_dcG {put : TPut} {kx vx tg iter : Expr} {ifs : List Expr} {scope : Scope} {own : List (Str × Nat)} {pos : Pos} {wi : TI} {g : TG} {tt : TT} {tk tv : TE} (hp : PutOk X put) (hc : X.calm = true) (hN : X.N.Nodup) (hi : PI X tg iter wi) (ok : BlkOk X.N X.env.scope scope own)
    (hg : ∀ (s : Shared) (H : Hp) (C : Addr) (cl : List (Str × Addr)) (fp : List Addr), PG (X.blk s H scope (compEnvC scope cl C X.env) fp) tg g) (ht : ∀ (s : Shared) (H : Hp) (C : Addr) (cl : List (Str × Addr)) (fp : List Addr), PTs (X.blk s H scope (compEnvC scope cl C X.env) fp) ifs tt)
    (hk : ∀ (s : Shared) (H : Hp) (C : Addr) (cl : List (Str × Addr)) (fp : List Addr), PE (X.blk s H scope (compEnvC scope cl C X.env) fp) kx tk)
    (he : ∀ (s : Shared) (H : Hp) (C : Addr) (cl : List (Str × Addr)) (fp : List Addr), PE (X.blk s H scope (compEnvC scope cl C X.env) fp) vx tv) (hs : ∀ x, foldedSetIterable iter X.env x = pure x := by intro _; rfl) :
    PE X (.DictComp kx vx [⟨tg, iter, ifs, 0⟩] scope pos) (tDcG put wi g tt tk tv (own.map (·.2))) := ⟨fun pins s σ H Q I h => by
  rw [arm_eval_DictComp]
  refine dcG_run hp hc hN I hi ok hg ht hk he hs h fun D C s' m H' I' q hn ⟨f0, f1, f2, f3, f4, f5⟩ => ⟨m, hn, fun h'' sb => ⟨.ref D, H', I'.turned (t' := s'.toks) (fun b o hb e => (sb.2 b hb).trans e) f0 f1 f3 f4 f5, rfl, q⟩⟩⟩
end
end Mi
set_option Elab.async false
set_option linter.all false
set_option maxRecDepth 100000
set_option maxHeartbeats 4000000
namespace Mi
open PySem PySem.Spec PyProof.Rows L2 He Wl
def putT (G : Gx) : TPut := fun D y z H Nx => ∃ (Y : Addr → Prop) (ks : List NK) (vs : List V) (j : NK) (q : Addr), y = .ref q ∧ ((∃ l, j = .tup l) ∧ j.depth ≤ 8 ∧ KeyAt H Y j (.ref q)) ∧ DictAt G H Y D (fun o => H D = some o) ks vs ∧ ks.all isTupK = true ∧ ks.length < 1000000 ∧
  ∀ es : List DnE, es.map DnE.k = ks → es.map DnE.v = vs → (∀ e ∈ es, KeyOk H Y e) → Nx (upd H D (DnO G D (putE es j q z)))
theorem putT_ok {X : Cx} (hu : X.A.units + 64 < cLine) : PutOk X (putT X.gx) := by
  intro X' hX hA pins σ H s D y z u r Nx Q E I ry rz hp k
  obtain ⟨Y, ks, vs, j, q, rfl, kj, dt, ht, hl, nx⟩ := hp
  have eP : X'.prog = X.prog := congrArg Gx.P hX
  have ew : X'.w = X.w := congrArg Gx.w hX
  rw [← hX] at dt nx
  rw [← eP, ← ew, ← hA]
  cases (show u = Value.ref q from ry)
  obtain ⟨es, us, e1, e2, hk, pr, hsm, hle, dd⟩ := dict_H I (fun u z => I.hok D _ z) dt ht
  have hlen : es.length < 1000000 := by
    have : es.length = ks.length := by rw [← e1]; simp
    omega
  refine wpAny_dictSet_heap (hsz := by rw [dnX_len pr]; exact hle) (show X'.A.units + 8 < cLine by rw [hA]; omega) (key_is I kj.2.2 kj.2.1) dd fun h' dd' hs => ?_
  obtain ⟨us', p', es2⟩ := stored_E (q := q) pr rz (j := j)
  rw [es2] at dd'
  have hl' : (putE es j q z).length ≤ sizeLine := by have := putE_len es j q z; exact Nat.le_trans this (thou (by omega))
  have he : ∃ q, h'.get? D = some q := let ⟨q, _, _, hq, _⟩ := dd'; ⟨q, hq⟩
  exact k _ _ (d_write I (dict_mut dt) hs he (dn_ok (X := X') hl' hsm p' dd')) (nx es e1 e2 hk)
def compD (g : MG) (t : MT) (k v : ME) (τ : Sl) : List W → List NK → List D → Sto → Option (List NK × List D × Sto)
  | [], ks, ds, S => some (ks, ds, S)
  | w :: ws, ks, ds, S => match g w τ S with
    | none => none
    | some (τ1, S1) => match t τ1 S1 with
      | .ok true S2 => (match k τ1 S2 with
        | .ok kw S3 => (match v τ1 S3 with
          | .ok (.d x) S4 => (match tkey kw with
            | some j => if (ks.all isTupK && decide (ks.length < 1000000)) = true then compD g t k v τ ws (putKs ks j) (putVs ks ds j x) S4 else none
            | none => none)
          | _ => none)
        | _ => none)
      | .ok false S2 => compD g t k v τ ws ks ds S2
      | _ => none
def dcM (vs : List Nat) (mi : MA) (g : MG) (t : MT) (k v : ME) : ME := fun τ S => (mi τ S).bind fun ws S1 => match compD g t k v (wipeT τ vs) ws [] [] S1 with
  | some (ks, ds, S2) => .ok (.loc S2.length) (S2 ++ [.dct ks (ds.map .d)])
  | none => .no
structure DcAt (G : Gx) (F : Addr → Prop) (α1 : List Addr) (S1 : Sto) (H1 : Hp) (d : Addr) (α : List Addr) (S : Sto) (H : Hp) (ks : List NK) (ds : List D) : Prop where
  rel : Rel G (fun a => F a ∨ a = d) α S H
  stp : Stp α1 S1 H1 α S H
  acc : ∃ vs, DictAt G H (XX (fun a => F a ∨ a = d) α S) d (fun o => H d = some o) ks vs ∧ Reps G H (XX (fun a => F a ∨ a = d) α S) ds vs
section
variable {G : Gx} {F : Addr → Prop} {α1 α α' : List Addr} {S1 S S' : Sto} {H1 H H' : Hp} {d : Addr} {ks : List NK} {ds : List D}
theorem rel_new_out {o : HO} (r : Rel G F α1 S1 H1) (nd : H1 d = none) : Rel G (fun a => F a ∨ a = d) α1 S1 (upd H1 d o) := by
  have sm : Same H1 (upd H1 d o) := same_new nd
  refine ⟨r.len, r.nd, fun a z hz => ?_, fun a z => ?_, fun n a h => ?_, fun n a u h1 h2 => ?_⟩
  · rcases z with z | z
    · exact r.fr a z hz
    · subst z
      obtain ⟨n, h⟩ := List.getElem?_of_mem hz
      obtain ⟨o, e⟩ := r.ad n _ h
      rw [nd] at e; cases e
  · rcases z with z | z
    · obtain ⟨o, e⟩ := r.fd a z; exact ⟨o, sm _ _ e⟩
    · subst z; exact ⟨_, upd_same⟩
  · obtain ⟨o, e⟩ := r.ad n a h; exact ⟨o, sm _ _ e⟩
  · refine (r.obj n a u h1 h2).stay ⟨fun a u e _ => sm a u e, fun a u e z => ?_⟩ ⟨[], by simp⟩ fun u e _ => sm _ _ e
    rcases z with (z | z) | z
    · exact .inl z
    · subst z; rw [nd] at e; cases e
    · exact .inr z
theorem DcAt.first (r : Rel G F α1 S1 H1) (nd : H1 d = none) : DcAt G F α1 S1 H1 d α1 S1 (upd H1 d (.dK [])) [] [] :=
  ⟨rel_new_out r nd, Stp.same (same_new nd), [], .inl ⟨[], upd_same, rfl, rfl⟩, by unfold Reps; rfl⟩
theorem DcAt.on (c : DcAt G F α1 S1 H1 d α S H ks ds) (r : Rel G (fun a => F a ∨ a = d) α' S' H') (s : Stp α S H α' S' H') : DcAt G F α1 S1 H1 d α' S' H' ks ds := by
  obtain ⟨vs, h1, h2⟩ := c.acc
  have nd : ¬ own α S d := fun ⟨n, o, e, _⟩ => c.rel.fr d (.inr rfl) (List.mem_of_getElem? e)
  exact ⟨r, c.stp.trans s, vs, h1.stay s.stay fun o e => s.keep _ _ e nd, h2.stay s.stay⟩
theorem Reps.put {Y : Addr → Prop} {x : D} {v : V} {j : NK} : ∀ {ks : List NK} {xs : List D} {vs : List V}, Rep G H Y x v → Reps G H Y xs vs → Reps G H Y (putVs ks xs j x) (putVs ks vs j v) := fun {ks xs vs} hx h => by
  have h2 : RepWs G H Y ([] : List Addr) ((putVs ks xs j x).map .d) (putVs ks vs j v) := by
    have e : (putVs ks xs j x).map W.d = putVs ks (xs.map .d) j (.d x) := by
      unfold putVs
      split
      · have : ∀ (ks : List NK) (xs : List D), (dRep ks xs j x).map W.d = dRep ks (xs.map .d) j (.d x) := by
          intro ks
          induction ks with
          | nil => intro xs; unfold dRep; rfl
          | cons k ks ih =>
            intro xs
            cases xs with
            | nil => unfold dRep; rfl
            | cons y ys =>
              show ((if k = j then x else y) :: dRep ks ys j x).map W.d = (if k = j then W.d x else W.d y) :: dRep ks (ys.map .d) j (.d x)
              rw [List.map_cons, ih ys]
              congr 1
              split <;> rfl
        exact this ks xs
      · simp
    rw [e]
    exact RepWs.put (rw_d hx) (reps_d h)
  exact RepWs.reps h2
theorem DcAt.put (c : DcAt G F α1 S1 H1 d α S H ks ds) (nd1 : H1 d = none) {x : D} {v : V} {j : NK} {q : Addr} {es : List DnE} {vs : List V} (hd : DictAt G H (XX (fun a => F a ∨ a = d) α S) d (fun o => H d = some o) ks vs) (hr : Reps G H (XX (fun a => F a ∨ a = d) α S) ds vs)
    (e1 : es.map DnE.k = ks) (e2 : es.map DnE.v = vs) (hk : ∀ e ∈ es, KeyOk H (XX (fun a => F a ∨ a = d) α S) e) (kj : (∃ l, j = .tup l) ∧ j.depth ≤ 8 ∧ KeyAt H (XX (fun a => F a ∨ a = d) α S) j (.ref q)) (hx : Rep G H (XX (fun a => F a ∨ a = d) α S) x v) :
    DcAt G F α1 S1 H1 d α S (upd H d (DnO G d (putE es j q v))) (putKs ks j) (putVs ks ds j x) := by
  obtain ⟨r2, st⟩ := Rel.out (o := DnO G d (putE es j q v)) c.rel (.inr rfl)
  refine ⟨r2, ⟨c.stp.pre, fun a o e n => ?_, c.stp.less⟩, putVs ks vs j v, .inr (.inl ⟨putE es j q v, upd_same, by rw [putE_keys, e1], by rw [putE_vals, e1, e2], fun e he => ?_⟩), (Reps.put hx hr).stay st⟩
  · rw [upd_ne (ne_of_none e nd1)]
    exact c.stp.keep a o e n
  · obtain ⟨k1, k2, k3⟩ := putE_ok hk kj e he
    exact ⟨k1, k2, k3.stay st⟩
theorem own_out {o : O} (r : Rel G (fun a => F a ∨ a = d) α S H) (nF : ¬ F d) (ob : ∀ Y, (∀ a, Y a → XX (fun a => F a ∨ a = d) α S a) → ObjAt G H Y (α ++ [d]) d o) : Rel G F (α ++ [d]) (S ++ [o]) H := by
  have hlen : α.length = S.length := r.len
  have l : ∀ a, XX F (α ++ [d]) (S ++ [o]) a → XX (fun a => F a ∨ a = d) α S a := fun a z => by
    rcases z with z | ⟨i, v, e1, e2, e3⟩
    · exact .inl (.inl z)
    · by_cases hi : i < α.length
      · rw [List.getElem?_append_left hi] at e1
        rw [List.getElem?_append_left (by omega)] at e2
        exact .inr ⟨i, v, e1, e2, e3⟩
      · rw [List.getElem?_append_right (by omega)] at e1
        exact .inl (.inr (by simpa using List.mem_of_getElem? e1))
  have st : Stay (XX (fun a => F a ∨ a = d) α S) (XX F (α ++ [d]) (S ++ [o])) H H := ⟨fun _ _ e _ => e, fun a _ _ z => l a z⟩
  have last : ∀ {i : Nat} {a : Addr}, ¬ i < α.length → (α ++ [d])[i]? = some a → a = d := fun {i a} hi e => by
    rw [List.getElem?_append_right (by omega)] at e
    simpa using List.mem_of_getElem? e
  refine ⟨by simp [hlen], ?_, fun a z hz => ?_, fun a z => r.fd a (.inl z), fun i a e => ?_, fun i a u e1 e2 => ?_⟩
  · rw [List.nodup_append]
    refine ⟨r.nd, by simp, fun a ha b hb => ?_⟩
    have : b = d := by simpa using hb
    subst this
    rintro rfl
    exact r.fr _ (.inr rfl) ha
  · rcases List.mem_append.mp hz with hz | hz
    · exact r.fr a (.inl z) hz
    · have : a = d := by simpa using hz
      subst this
      exact nF z
  · by_cases hi : i < α.length
    · rw [List.getElem?_append_left hi] at e
      exact r.ad i a e
    · rw [last hi e]; exact r.fd d (.inr rfl)
  · by_cases hi : i < α.length
    · rw [List.getElem?_append_left hi] at e1
      rw [List.getElem?_append_left (by omega)] at e2
      exact (r.obj i a u e1 e2).stay st ⟨[d], rfl⟩ fun v e _ => e
    · have := last hi e1
      subst this
      rw [List.getElem?_append_right (by omega)] at e2
      have e2' : u = o := by simpa using List.mem_of_getElem? e2
      subst e2'
      exact ob _ l
end
section
variable {X : Cx} {Wx : WX} {us : List Nat}
theorem tDc_of {vs : List Nat} {mi : MA} {g : MG} {t : MT} {k v : ME} {σ : L2.St} {H : Hp} {Q : VK} (hu : ∀ i ∈ us, i ∈ vs) (h : tE X Wx (dcM vs mi g t k v) σ H Q) :
    tDcG (putT X.gx) (tIt X Wx mi) (tGo X.gx us g) (tM rB X.gx wF t) (tM (rW X.gx) X.gx wF k) (tM (rW X.gx) X.gx wF v) vs σ H Q := by
  obtain ⟨F, α0, S0, τ, r, sl, f⟩ := h
  refine ⟨F, α0, S0, τ, r, sl, ?_⟩
  unfold dcM at f
  cases em : mi τ S0 with
  | no => rw [em] at f; exact f
  | ex c fs ws S' => rw [em] at f; exact f
  | ok ws S1 =>
    rw [em, Res.bind_ok] at f
    intro α1 H1 J r1 s1 hy D nD
    split at f
    · rename_i ks0 ds0 S2 ec
      have nF : ¬ F D := fun z => by obtain ⟨o, e⟩ := r1.fd D z; rw [nD] at e; cases e
      have hy := hy (fun a => F a ∨ a = D) fun a z => z.elim .inl fun z => .inr (z ▸ nD)
      refine ⟨fun i m H => m = ws.length - i ∧ i ≤ ws.length ∧ ∃ α S ks ds, DcAt X.gx F α1 S1 H1 D α S H ks ds ∧ compD g t k v (wipeT τ vs) (ws.drop i) ks ds S = some (ks0, ds0, S2), ⟨ws.length, by simp, Nat.zero_le _, α1, S1, [], [], DcAt.first r1 nD, by simpa using ec⟩, ?_⟩
      rintro i m H ⟨rfl, hle, α, S, ks, ds, ca, ec⟩
      by_cases hlt : i < ws.length
      · have ei : ws[i]? = some ws[i] := by simp [hlt]
        rw [List.drop_eq_getElem_cons hlt] at ec
        obtain ⟨hgo, hyl⟩ := (hy i α S H ca.rel ca.stp.toF).2 _ ei
        refine .inr ⟨hgo, fun H' => i + 1 ≤ ws.length ∧ ∃ α S ks ds, DcAt X.gx F α1 S1 H1 D α S H' ks ds ∧ compD g t k v (wipeT τ vs) (ws.drop (i + 1)) ks ds S = some (ks0, ds0, S2), fun H' q => ⟨_, by omega, rfl, q⟩, fun x H' y => ?_⟩
        obtain ⟨sm, rx⟩ := hyl x H' y
        have ca' := ca.on (ca.rel.same sm) (Stp.same sm)
        have sl' : SlotsR X.gx H' (XX (fun a => F a ∨ a = D) α S) α (wipeT τ vs) (wipe σ vs) := by
          have q := wipeT_slots sl vs
          refine ⟨q.len, fun j w e => ?_⟩
          obtain ⟨v, e1, rv⟩ := q.at_ j w e
          have so := (s1.trans ca'.stp)
          refine ⟨v, e1, rv.stay ⟨fun a u e n => so.keep a u e fun z => n (.inr z), fun a u e z => ?_⟩ so.pre⟩
          rcases z with (z | z) | z
          · exact .inl z
          · subst z
            by_cases ow : own α0 S0 a
            · exact .inr ow
            · have e' := s1.keep a u e ow
              rw [nD] at e'; cases e'
          · exact .inr (so.less a u e z)
        unfold compD at ec
        split at ec
        · cases ec
        · rename_i τ1 S3 eg
          refine ⟨_, α, S, wipeT τ vs, ws[i], τ1, S3, ca'.rel, sl', rx, eg, fun α4 H4 σ4 r4 s4 sl4 wp => ⟨?_, ?_⟩⟩
          · rw [wipe_more hu wp, wipe_wipe]
          · have ca4 := ca'.on r4 s4
            refine ⟨_, α4, S3, τ1, r4, sl4, ?_⟩
            cases et : t τ1 S3 with
            | no => rw [et] at ec; cases ec
            | ex c fs xs S' => rw [et] at ec; cases ec
            | ok b S5 =>
              rw [et] at ec
              intro α5 H5 b' r5 s5 eb
              have eb : b = b' := eb
              subst eb
              have ca5 := ca4.on r5 s5
              cases b with
              | false => exact ⟨hlt, α5, S5, ks, ds, ca5, ec⟩
              | true =>
                simp only [if_true]
                refine ⟨_, α5, S5, τ1, r5, sl4.stp s5, ?_⟩
                dsimp only at ec
                split at ec
                · rename_i kw S6 ek
                  rw [ek]
                  intro α6 H6 y6 r6 s6 rk6
                  refine ⟨_, α6, S6, τ1, r6, (sl4.stp s5).stp s6, ?_⟩
                  split at ec
                  · rename_i x7 S7 ev
                    rw [ev]
                    intro α7 H7 v7 r7 s7 rv7
                    split at ec
                    · rename_i j ej
                      split at ec
                      · rename_i hc
                        rw [Bool.and_eq_true] at hc
                        have ca7 := (ca5.on r6 s6).on r7 s7
                        obtain ⟨vs7, dt7, hr7⟩ := ca7.acc
                        obtain ⟨qq, rfl, kj⟩ := tkey_at (RepW.stp s7 rk6) ej
                        refine ⟨_, ks, vs7, j, qq, rfl, kj, dt7, hc.1, of_decide_eq_true hc.2, fun es e1 e2 hk => ⟨hlt, α7, S7, _, _, ca7.put nD dt7 hr7 e1 e2 hk kj (by unfold rW RepW at rv7; exact rv7), ec⟩⟩
                      · cases ec
                    · cases ec
                  · cases ec
                · cases ec
      · have e : i = ws.length := by omega
        subst e
        refine .inl ⟨(hy _ α S H ca.rel ca.stp.toF).1 rfl, ?_⟩
        rw [List.drop_length] at ec
        unfold compD at ec
        cases ec
        obtain ⟨vs9, hd, hr⟩ := ca.acc
        have so := s1.trans ca.stp
        have hl := ca.rel.len
        have ra := own_out (o := .dct ks0 (ds0.map .d)) ca.rel nF fun Y l => ⟨vs9, hd.stay ⟨fun _ _ e _ => e, fun a _ _ z => l a z⟩ (fun _ e => e), reps_d (hr.less l)⟩
        refine f _ H _ ra ⟨so.pre.trans ⟨[D], rfl⟩, fun a u e n => so.keep a u e n, fun a u e z => ?_⟩ (by unfold rW RepW; exact ⟨D, by rw [← hl]; simp, rfl⟩)
        obtain ⟨i, v, e1, e2, e3⟩ := z
        by_cases hi : i < α.length
        · rw [List.getElem?_append_left hi] at e1
          rw [List.getElem?_append_left (by omega)] at e2
          exact so.less a u e ⟨i, v, e1, e2, e3⟩
        · rw [List.getElem?_append_right (by omega)] at e1
          have : a = D := by simpa using List.mem_of_getElem? e1
          subst this
          exact Classical.byContradiction fun q => by
            have := s1.keep a u e q
            rw [nD] at this; cases this
    · exact f.elim
variable {kx vx tg iter : Expr} {pos : Pos} {mi : MA} {g : MG} {t : MT} {mk mv' : ME} {ifs : List Expr} {scope : Scope} {own : List (Str × Nat)}
theorem me_dc (hU : X.A.units + 64 < cLine) (hc : X.calm = true) (hN : X.N.Nodup) (hi : EI X Wx tg iter mi) (ok : BlkOk X.N X.env.scope scope own)
    (hg : ∀ (s : Shared) (H : Hp) (C : Addr) (cl : List (Str × Addr)) (fp : List Addr), EG (X.blk s H scope (compEnvC scope cl C X.env) fp) (own.map (·.2)) tg g)
    (ht : ∀ (s : Shared) (H : Hp) (C : Addr) (cl : List (Str × Addr)) (fp : List Addr), PTs (X.blk s H scope (compEnvC scope cl C X.env) fp) ifs (tM rB X.gx wF t))
    (hk : ∀ (s : Shared) (H : Hp) (C : Addr) (cl : List (Str × Addr)) (fp : List Addr), EE (X.blk s H scope (compEnvC scope cl C X.env) fp) wF kx mk)
    (he : ∀ (s : Shared) (H : Hp) (C : Addr) (cl : List (Str × Addr)) (fp : List Addr), EE (X.blk s H scope (compEnvC scope cl C X.env) fp) wF vx mv') (hs : ∀ x, foldedSetIterable iter X.env x = pure x := by intro _; rfl) :
    EE X Wx (.DictComp kx vx [⟨tg, iter, ifs, 0⟩] scope pos) (dcM (own.map (·.2)) mi g t mk mv') :=
  PE.imp (pe_dcG (tk := tM (rW X.gx) X.gx wF mk) (tv := tM (rW X.gx) X.gx wF mv') (g := tGo X.gx (own.map fun q : Str × Nat => q.2) g) (putT_ok hU) hc hN hi ok hg ht hk he hs) fun σ H Q h => tDc_of (fun _ z => z) h
def fzM (m : ME) : ME := fun τ S => (m τ S).bind fun w S1 => match w with
  | .loc n => (match (frz1 S1 n)[n]? with
    | some (.fz x) => .ok (.d x) (frz1 S1 n)
    | _ => .no)
  | w => .ok w S1
theorem me_fz {e : Expr} {m : ME} (h : EE X Wx e m) : EE X Wx e (fzM m) := ⟨fun pins s σ H Q I q => by
  obtain ⟨F, α, S, τ, r, sl, f⟩ := q
  have q' : tE X Wx m σ H fun v H1 => ∀ (s' : Shared), Inv X pins σ H1 s' → ∃ H2, Inv X pins σ H2 s' ∧ Q v H2 := by
    refine ⟨F, α, S, τ, r, sl, ?_⟩
    unfold fzM at f
    cases em : m τ S with
    | no => rw [em] at f; exact f
    | ex c fs ws S' => rw [em] at f; exact f
    | ok w S1 =>
      rw [em, Res.bind_ok] at f
      intro α1 H1 v r1 s1 hw s' I1
      split at f
      · rename_i n
        obtain ⟨H2, I2, r2, s2⟩ := frz_one I1 r1 n
        split at f
        · rename_i x ex
          unfold rW RepW at hw
          obtain ⟨a, ea, rfl⟩ := hw
          exact ⟨H2, I2, f α1 H2 _ r2 (s1.trans s2) (rw_d (r2.obj n a _ ea ex))⟩
        · exact f.elim
      · exact ⟨H1, I1, f α1 H1 v r1 s1 hw⟩
  exact thn (h.run pins s σ H _ I q') fun u s1 ⟨v, H1, I1, rv, k⟩ => by
    obtain ⟨H2, I2, z⟩ := k s1 I1
    exact ⟨v, H2, I2, rv, z⟩⟩
end
end Mi
set_option Elab.async false
set_option linter.all false
set_option maxRecDepth 100000
set_option maxHeartbeats 4000000
namespace Mi
open PySem PySem.Spec PyProof.Rows L2 He Wl
section
variable {X : Cx} {pins : List (Addr × Obj)} {σ : L2.St} {H : Hp} {s : Shared} {F : Addr → Prop} {α : List Addr} {S : Sto}
end
end Mi
set_option Elab.async false
set_option linter.all false
set_option maxRecDepth 100000
set_option maxHeartbeats 4000000
namespace Mi
open PySem PySem.Spec PyProof.Rows L2 He Wl
theorem vals_of : ∀ {vs : List V} {us : List Value}, vs.length = us.length → (∀ (i : Nat) (v : V) (u : Value), vs[i]? = some v → us[i]? = some u → RelV v u) → Vals vs us
  | [], [], _, _ => .nil
  | v :: vs, u :: us, h, k => .cons (k 0 v u rfl rfl) (vals_of (by simpa using h) fun i v' u' e1 e2 => k (i + 1) v' u' (by simpa using e1) (by simpa using e2))
section
variable {X : Cx} {pins : List (Addr × Obj)} {σ : L2.St} {H : Hp} {s : Shared} {F : Addr → Prop} {α : List Addr} {S : Sto}
theorem ents_list {a : Addr} {u : HO} {o : Obj} {ps : List (V × V)} {f : V × V → V} (hf : f = Prod.fst ∨ f = Prod.snd) {ar : Array DictEntry} (hh : ∀ i (hi : i < ar.size), ∃ p, ps[i]? = some p ∧ RelV p.1 ar[i].key ∧ RelV p.2 ar[i].val) (hsz : ar.size = ps.length) {acc : Array Value} {P : Nat → Value → Prop}
    (hP : ∀ i v, P i v → ∃ hi : i < ar.size, ∀ p, ps[i]? = some p → RelV p.1 ar[i].key → RelV p.2 ar[i].val → RelV (f p) v) (h : ItemsOf P acc ar.size) : Vals (ps.map f) acc.toList := by
  refine vals_of (by simp [h.1, hsz]) fun i v u e1 e2 => ?_
  rw [List.getElem?_map, Option.map_eq_some_iff] at e1
  obtain ⟨p, ep, rfl⟩ := e1
  obtain ⟨hi, k⟩ := hP i u (h.2 i u (by simpa using e2))
  obtain ⟨p', ep', r1, r2⟩ := hh i hi
  rw [ep] at ep'; cases ep'
  exact k p ep r1 r2
theorem Reps.of_get {G : Gx} {Y : Addr → Prop} : ∀ {xs : List D} {vs : List V}, xs.length = vs.length → (∀ (i : Nat) (x : D) (v : V), xs[i]? = some x → vs[i]? = some v → Rep G H Y x v) → Reps G H Y xs vs
  | [], [], _, _ => by unfold Reps; rfl
  | x :: xs, v :: vs, h, k => by
    unfold Reps
    exact ⟨v, vs, rfl, k 0 x v rfl rfl, Reps.of_get (by simpa using h) fun i x' v' e1 e2 => k (i + 1) x' v' (by simpa using e1) (by simpa using e2)⟩
def valsO (p d : Addr) : HO := .ext fun h => h.IsValuesView p d
theorem valsO_ok {P : Program} {w : World} {h : Heap} {p d : Addr} (e : h.get? p = some { cls := .type "dict_values", data := .fields #[.ref d] }) : ObjOk P w H h p (valsO p d) :=
  ⟨⟨_, e, rfl, rfl⟩, ⟨_, e⟩, fun h1 h2 x k => let ⟨o, ho, r⟩ := x; ⟨o, k o ho, r⟩⟩
theorem meets_values {prog : Program} {w : World} {d : Addr} {es : Array DictEntry} {ep : Nat} (hd : (d == sysModules) = false) :
    MeetsIn prog w (Builtin.«dict.values» ⟨[.ref d], []⟩) (fun _ R s => s.heap.DictRaw d es ep ∧ R (.ok (.ret (.ref s.heap.objs.size))) { s with heap := s.heap.push { cls := .type "dict_values", data := .fields #[.ref d] } }) :=
  .of_wp fun A R s ⟨hm, h⟩ => by
    refine wpAny_bind ?_
    unfold Builtin.Dict.noArgs
    refine wpAny_bind (wpAny_notOrdered_dict hm.typeIs (wpAny_pure ?_))
    show wpAny _ _ (Builtin.Dict.showsAll d >>= _) _ _ s
    unfold Builtin.Dict.showsAll
    rw [if_neg (by rw [hd]; exact Bool.false_ne_true)]
    exact wpAny_bind (wpAny_pure (wpAny_bind (wpAny_newObj_type (wpAny_pure ⟨_, rfl, h⟩))))
def tVals (G : Gx) (td : TE) : TE := fun σ H Q => td σ H fun x H1 => ∃ d o u ps, x = .ref d ∧ H1 d = some (.frz o u) ∧ Ents G d u ps ∧ ∀ p, H1 p = none → Q (.ref p) (upd H1 p (valsO p d))
variable {e : Expr} {td : TE} {apos cpos : Pos}
theorem pe_vals (he : PE X e td) (hbase : attributeBase e "values" X.env (eval e X.env) = eval e X.env := by rfl) (hline : (apos.endLine == cpos.line) = true := by rfl) : PE X (.Call (.Attribute e "values" apos) [] [] cpos) (tVals X.gx td) := by
  refine ⟨fun pins s σ H Q I h => ?_⟩
  refine wpAny_Call_method (T := "dict") (id := "dict.values") hbase rfl hline F.plainAttrs_dict F.slot_dict_values F.type_dict_values (thn (he.run pins s σ H _ I h) fun v s1 ⟨x, H1, I1, rx, d, o, u, ps, ex, hd, hE, q⟩ => ?_)
  subst ex
  obtain rfl : v = Value.ref d := rx
  obtain ⟨hs, hl, ar, ep, hdt, raw, hsz, _⟩ := hE X rfl pins σ H1 s1 o I1 hd
  obtain ⟨ob, ho, hx, hdat⟩ := id raw
  refine ⟨raw.typeIs, (fun b z => by cases z; exact ⟨ob, ho, hx.2.1⟩), ?_⟩
  show wpAny _ _ (callWith cpos (.builtin "dict.values") [.ref d] [] []) _ X.xe s1
  refine method_meetsIn F.slot_dict_values F.entry_dict_values rfl (PySem.evalArgs_none ⟨rfl, raw.typeIs, F.args_dict_values_1 _, _, meets_values (es := ar) (ep := ep) hs, raw, ?_⟩)
  exact ⟨.ref s1.heap.objs.size, _, I1.laid (t' := s1.toks) (fun b u e => Heap.get?_push_of_some _ e) (Nat.le_refl _) (valsO_ok (Heap.get?_push_size _ rfl)), rfl, q _ (I1.hok.fresh (Nat.le_refl _))⟩
theorem call_listV (hc : X.calm = true) : CallR X (.type "list") (fun xs H Q => ∃ r d o u ps, xs = [.ref r] ∧ H r = some (valsO r d) ∧ H d = some (.frz o u) ∧ Ents X.gx d u ps ∧ ∀ p, H p = none → Q (.ref p) (upd H p (.lst (ps.map Prod.snd)))) := by
  intro pins s σ H xs us Q I rv h
  obtain ⟨r, d, o, u, ps, rfl, hr, ha, hE, q⟩ := h
  obtain ⟨u', rfl, r1⟩ := vals1 rv
  cases (show u' = Value.ref r from r1)
  obtain ⟨hs, hl, ar, ep, hdt, raw, hsz, hh⟩ := hE X rfl pins σ H s o I ha
  obtain ⟨hv, _⟩ := (show ObjOk X.prog X.w H s.heap r (valsO r d) from I.hok r _ hr)
  refine PySem.W.kdl_call (KdlSrc.rawValues (es := ar) (ep := ep)) (I.ok.hd hc) ⟨hv, raw⟩ (by rw [hsz]; exact hl) fun h' tk acc c' hk hD hacc => ?_
  have rl : Vals (ps.map Prod.snd) acc.toList := ents_list (o := o) (u := u) (a := d) (.inr rfl) hh hsz (fun i v ⟨hi, e⟩ => ⟨hi, fun p _ _ r2 => by rw [e]; exact r2⟩) hacc
  have I2 := I.laid (o := .lst (ps.map Prod.snd)) (t' := tk) hk (Nat.le_refl _) ⟨by simpa using hl, acc.toList, c', rl, by simpa using hD⟩
  exact ⟨.ref s.heap.objs.size, _, I2, rfl, q _ (I.hok.fresh (Nat.le_refl _))⟩
def lvK (w : W) (S1 : Sto) : Res W := match frzOf S1 w with
  | some (_, xs) => .ok (.d (.lst xs)) S1
  | none => .no
def lvM (m : ME) : ME := fun τ S => (m τ S).bind fun w S1 => lvK w S1
theorem me_listVals {Wx : WX} {m : ME} {p pos : Pos} (hc : X.calm = true) (hg : Gl X "list") (hm : X.mg "list" = none) (he : EE X Wx e m) (hbase : attributeBase e "values" X.env (eval e X.env) = eval e X.env := by rfl) (hline : (apos.endLine == cpos.line) = true := by rfl)
    (hst : starEach [.Call (.Attribute e "values" apos) [] [] cpos] X.env = (false, eval (.Call (.Attribute e "values" apos) [] [] cpos) X.env) :: starEach [] X.env := by rfl) (hpl : (backTo pos (starEach [] X.env)).any (·.1) = false := by rfl) :
    EE X Wx (.Call (.Name "list" p) [.Call (.Attribute e "values" apos) [] [] cpos] [] pos) (lvM m) :=
  PE.imp (pe_callTy (T := "list") (call_listV hc) hg hm (by decide +kernel) (pa_cons (pe_vals he hbase hline) pa_nil hst) (by decide) (by decide) hst hpl) fun σ H Q h => by
    refine tM_then (R1 := rW X.gx) (k := fun w τ S1 => lvK w S1) h fun v H1 ⟨F, α, S, τ, w, r, sl, rw', f⟩ => ?_
    unfold lvK at f
    dsimp only at f
    split at f
    · rename_i ks xs ef
      have hd := frzOf_at r rw' ef
      unfold Rep at hd
      obtain ⟨a, vs, rfl, na, dt, hr⟩ := hd
      obtain ⟨o, u, ps, ha, hE, l1, l2, hp⟩ := dict_ents dt
      refine ⟨a, o, u, ps, rfl, ha, hE, fun p np => ?_⟩
      have s1 : Same H1 (upd H1 p (valsO p a)) := same_new np
      refine ⟨p, a, o, u, ps, rfl, upd_same, s1 _ _ ha, hE, fun q nq => ?_⟩
      have s2 : Same (upd H1 p (valsO p a)) (upd (upd H1 p (valsO p a)) q (.lst (ps.map Prod.snd))) := same_new nq
      have s3 := s1.trans s2
      have nq1 : H1 q = none := by
        cases z : H1 q with
        | none => rfl
        | some o => rw [s1 q o z] at nq; cases nq
      refine f α _ _ (r.same s3) (Stp.same s3) (rw_d ?_)
      unfold Rep
      refine ⟨q, ps.map Prod.snd, rfl, r.fresh nq1, upd_same, Reps.of_get (by rw [hr.length]; simp; omega) fun i x v e1 e2 => ?_⟩
      rw [List.getElem?_map, Option.map_eq_some_iff] at e2
      obtain ⟨pp, ep', rfl⟩ := e2
      obtain ⟨kk, ek, ev, rk⟩ := hp i pp ep'
      obtain ⟨v', ev', rv⟩ := hr.get e1
      rw [ev] at ev'; cases ev'
      exact rv.stay ⟨fun b o e _ => s3 b o e, fun _ _ _ z => z⟩
    · exact f.elim
end
end Mi
set_option Elab.async false
set_option linter.all false
set_option maxRecDepth 100000
set_option maxHeartbeats 4000000
namespace Mi
open PySem PySem.Spec PyProof.Rows L2 He Wl
section
variable {X : Cx} {Wx : WX} {k v : Expr} {pos : Pos} {tk tv : TE} {mk mv' : ME}
def tDisp1 (G : Gx) (tk tv : TE) : TE := fun σ H Q => ∀ p, H p = none → tPairs [(tk, tv)] σ (upd H p (.dK [])) fun ps H2 => ∃ (Y : Addr → Prop) (j : NK) (q : Addr) (y : V), ps = [(.ref q, y)] ∧ j.depth ≤ 8 ∧ KeyAt H2 Y j (.ref q) ∧ H2 p = some (.dK []) ∧ Q (.ref p) (upd H2 p (DnO G p [⟨j, q, y⟩]))
theorem pe_disp1 (hU : X.A.units + 64 < cLine) (hk : PE X k tk) (hv : PE X v tv) : PE X (.Dict [some k] [v] pos) (tDisp1 X.gx tk tv) := by
  refine ⟨fun pins s σ H Q I q => ?_⟩
  have hn := I.hok.fresh (Nat.le_refl s.heap.objs.size)
  have I1 := I.laid (a := s.heap.objs.size) (o := .dK []) (h' := s.heap.push { cls := .type "dict", data := .dict #[] }) (t' := s.toks) (fun _ _ q => Heap.get?_push_of_some _ q) (Nat.le_refl _) (dk_empty s.heap I.big)
  rw [arm_eval_Dict, zip_pairTrees [some k] [v] X.env pos rfl rfl, dictDisplay_pairs (pairTrees [some k] [v] X.env pos) (by rw [pairTrees]; exact List.cons_ne_nil _ _) (by rw [pairTrees_length _ _ _ _ rfl rfl]; simp)]
  refine wpAny_bind (wpAny_standAt (wpAny_bind (wpAny_subDictH (knd := nestedKind X.prog X.w) (Q := fun d s' => wpAny (model X.prog X.w) X.A (pure (Value.ref d)) (EP X pins σ Q) X.xe s') (show X.A.units + 8 < cLine by omega) (by rw [pairTrees_length _ _ _ _ rfl rfl]; simp) ?_)))
  refine thn ((pps_cons (pos := pos) hk hv pps_nil).run pins _ σ _ _ I1 (q _ hn)) fun ws s2 ⟨ps, H2, I2, rel, Y, j, qa, y, e, hd, ka, hp, qq⟩ => ?_
  subst e
  cases rel with
  | @cons _ b _ bs h1 t =>
    cases t
    obtain ⟨b1, b2⟩ := b
    obtain ⟨r1, r2⟩ := h1
    cases (show b1 = Value.ref qa from r1)
    have dd0 : s2.heap.DictOfH (nestedKind X.prog X.w) s.heap.objs.size [] := by
      obtain ⟨es, us, e1, e2, _, pr, _, _, dd⟩ := dict_H (X := X) (Y := Y) (R := fun o => H2 s.heap.objs.size = some o) (ks := []) (vs := []) I2 (fun u z => I2.hok _ _ z) (.inl ⟨[], hp, rfl, rfl⟩) rfl
      cases es with
      | nil => cases pr; exact dd
      | cons _ _ => cases e1
    have hsm : (s.heap.objs.size == sysModules) = false := beq_eq_false_iff_ne.mpr (Ne.symm (Nat.ne_of_lt I.big))
    refine ⟨[(j, qa, b2)], ⟨rfl, rfl, key_is I2 ka hd, trivial⟩, dd0, fun h' tk' dd hs => wpAny_pure ⟨.ref _, _, ?_, rfl, qq⟩⟩
    have he : ∃ q, h'.get? s.heap.objs.size = some q := let ⟨q, _, _, hq, _⟩ := dd; ⟨q, hq⟩
    exact d_write I2 (by rw [hp]; exact True.intro) hs he (dn_ok (X := X) (us := [b2]) (by show 1 ≤ sizeLine; decide) hsm (.cons r2 .nil) dd)
def d1M (mk mv : ME) : ME := fun τ S => match mk τ S with
  | .ok kw S1 => (match mv τ S1 with
    | .ok w S2 => (match tkey kw, w with
      | some j, .d x => .ok (.loc S2.length) (S2 ++ [.dct [j] [.d x]])
      | _, _ => .no)
    | _ => .no)
  | _ => .no
theorem me_disp1 (hU : X.A.units + 64 < cLine) (hk : EE X Wx k mk) (hv : EE X Wx v mv') : EE X Wx (.Dict [some k] [v] pos) (d1M mk mv') := PE.imp (pe_disp1 hU hk hv) fun σ H Q h p np => by
  obtain ⟨F, α, S, τ, r, sl, f⟩ := h
  have nF : ¬ F p := fun z => by obtain ⟨o, e⟩ := r.fd p z; rw [np] at e; cases e
  have ca := DcAt.first r np
  have sl1 : SlotsR X.gx (upd H p (.dK [])) (XX (fun a => F a ∨ a = p) α S) α τ σ := ⟨sl.len, fun i w e => by
    obtain ⟨v, e1, rv⟩ := sl.at_ i w e
    refine ⟨v, e1, rv.stay ⟨fun a u e _ => same_new np a u e, fun a u e z => ?_⟩ ⟨[], by simp⟩⟩
    rcases z with (z | z) | z
    · exact .inl z
    · subst z; rw [np] at e; cases e
    · exact .inr z⟩
  show tE X Wx mk σ (upd H p (.dK [])) fun x H1 => tE X Wx mv' σ H1 fun y H2 => _
  unfold d1M at f
  refine ⟨_, α, S, τ, ca.rel, sl1, ?_⟩
  cases em : mk τ S with
  | no => rw [em] at f; exact f
  | ex c fs ws S' => rw [em] at f; exact f.elim
  | ok kw S1 =>
    rw [em] at f
    dsimp only at f
    intro α1 H1 kv r1 s1 rk
    have ca1 := ca.on r1 s1
    refine ⟨_, α1, S1, τ, r1, sl1.stp s1, ?_⟩
    cases ev : mv' τ S1 with
    | no => rw [ev] at f; exact f
    | ex c fs ws S' => rw [ev] at f; exact f.elim
    | ok w S2 =>
      rw [ev] at f
      dsimp only at f
      intro α2 H2 vv r2 s2 rv
      have ca2 := ca1.on r2 s2
      split at f
      · rename_i j x ej
        obtain ⟨q, rfl, kj⟩ := tkey_at (RepW.stp s2 rk) ej
        obtain ⟨vs2, dt2, hr2⟩ := ca2.acc
        have e0 : H2 p = some (.dK []) := by
          have n1 : ¬ own α S p := fun ⟨n, o, e, _⟩ => ca.rel.fr p (.inr rfl) (List.mem_of_getElem? e)
          have n2 : ¬ own α1 S1 p := fun ⟨n, o, e, _⟩ => r1.fr p (.inr rfl) (List.mem_of_getElem? e)
          exact s2.keep _ _ (s1.keep _ _ upd_same n1) n2
        refine ⟨_, j, q, vv, rfl, kj.2.1, kj.2.2, e0, ?_⟩
        have c3 := ca2.put np (vs := []) (ds := []) (ks := []) (es := []) (x := x) (v := vv) (j := j) (q := q) (.inl ⟨[], e0, rfl, rfl⟩) (by unfold Reps; rfl) rfl rfl (fun _ z => nomatch z) kj (by unfold rW RepW at rv; exact rv)
        have c3' : DcAt X.gx F α S H p α2 S2 (upd H2 p (DnO X.gx p [⟨j, q, vv⟩])) [j] [x] := c3
        obtain ⟨vs9, hd, hr⟩ := c3'.acc
        have hl := c3'.rel.len
        have ra := own_out (o := .dct [j] [.d x]) c3'.rel nF fun Y l => ⟨vs9, hd.stay ⟨fun _ _ e _ => e, fun a _ _ z => l a z⟩ (fun _ e => e), reps_d (xs := [x]) (hr.less l)⟩
        refine f _ _ _ ra ⟨c3'.stp.pre.trans ⟨[p], rfl⟩, fun a u e n => c3'.stp.keep a u e n, fun a u e z => ?_⟩ (by unfold rW RepW; exact ⟨p, by rw [← hl]; simp, rfl⟩)
        obtain ⟨i, v, e1, e2, e3⟩ := z
        by_cases hi : i < α2.length
        · rw [List.getElem?_append_left hi] at e1
          rw [List.getElem?_append_left (by omega)] at e2
          exact c3'.stp.less a u e ⟨i, v, e1, e2, e3⟩
        · rw [List.getElem?_append_right (by omega)] at e1
          have : a = p := by simpa using List.mem_of_getElem? e1
          subst this
          rw [np] at e; cases e
      · exact f.elim
theorem tuple_mul1 (l : Addr) (items : Array Value) (n : Nat) (dd : Option Addr) (sl : Array (Option Value)) (u : Tok) : Meets (Builtin.«tuple.__mul__» ⟨[.ref l, .int 1 u], []⟩) (fun _ R s => s.heap.get? l = some { cls := .type "tuple", dict := dd, data := .seq items n, slots := sl } ∧ R (.ok (.ret (Value.ref l))) s) :=
  .of_wp fun prog w A R s h => by
    obtain ⟨hp, g, d, tk, os⟩ := s
    obtain ⟨hl, h⟩ := h
    have f1 := AutoSeq1.idx_int
    wp_walk using wpAny_loadPart' hl
    exact ⟨_, rfl, h⟩
theorem op_rep1 : OpR X (binaryOp .Mult) (fun x y H Q => ∃ l xs, x = .ref l ∧ y = .int 1 ∧ SqT X.K H l xs ∧ Q (.ref l) H) := by
  intro pins s σ H x y v u Q I rx ry h
  obtain ⟨l, xs, rfl, rfl, hT, q⟩ := h
  cases rx
  obtain ⟨t, rfl⟩ := ry
  obtain ⟨its, r, ⟨⟨cls, dd, data, sl⟩, ho, hc, n, hd⟩, hs⟩ := I.tuple hT
  simp only at hc hd
  subst hc hd
  exact wpAny_binaryOp_repeat_ref (T := "tuple") (U := "int") (by decide) ⟨_, ho, rfl⟩ (fun s' => typeIs_int s' 1 t) noFill_tuple_mul F.fills_int_mul F.slot_int_rmul repeat_tuple F.slot_int_index.lookup
    (call_meets F.slot_int_rmul (typeIs_int s 1 t) F.entry_int_rmul (F.args_int_rmul_2 _ _) (int_rmul_tuple 1 t l its.toArray n dd sl)
      ⟨ho, rfl, ⟨_, ho, rfl⟩, call_meets F.slot_tuple_mul ⟨_, ho, rfl⟩ F.entry_tuple_mul (F.args_tuple_mul_2 _ _) (tuple_mul1 l its.toArray n dd sl t) ⟨ho, ⟨.ref l, H, I, rfl, q⟩⟩⟩)
def qRepT : Pr := pure2 fun S x y => match x.items, y with
  | some ws, .d (.int k) => if k = 1 then some x else if (!ws.isEmpty && (decide (2 ≤ k ∧ k ≤ 1000) && decide (ws.length ≤ 1000))) = true then some (mkT (List.replicate k.toNat ws).flatten) else none
  | _, _ => none
theorem RepWs.flat {G : Gx} {H : Hp} {Y : Addr → Prop} {α : List Addr} {ws : List W} {vs : List V} (h : RepWs G H Y α ws vs) : ∀ n : Nat, RepWs G H Y α (List.replicate n ws).flatten (List.replicate n vs).flatten
  | 0 => by show RepWs _ _ _ _ [] []; unfold RepWs; rfl
  | n + 1 => by
    rw [List.replicate_succ, List.replicate_succ, List.flatten_cons, List.flatten_cons]
    exact RepWs.append (RepWs.flat h n) h
theorem os_repT : OpS X (binaryOp .Mult) qRepT := fun pins s σ H x y v u Q I rx ry q => by
  obtain ⟨F, α, S, wx, wy, w, r, hx, hy, e, k⟩ := rQ_two q
  split at e
  · rename_i ws kk ei
    unfold RepW Rep at hy
    subst hy
    obtain ⟨a, vs, rfl, na, ha, hv⟩ := W.items_at hx ei
    split at e
    · rename_i h1
      subst h1
      cases e
      exact op_rep1 pins s σ H _ _ v u Q I rx ry ⟨a, vs, rfl, rfl, SqT.of ha, k H _ (fun _ _ e => e) hx⟩
    · split at e
      · rename_i hc
        cases e
        simp only [Bool.and_eq_true, Bool.not_eq_true', decide_eq_true_eq] at hc
        obtain ⟨h1, ⟨h2, h3⟩, h4⟩ := hc
        have hl := hv.length
        refine op_repT pins s σ H _ _ v u Q I rx ry ⟨a, kk, vs, rfl, rfl, SqT.of ha, fun z => ?_, h2, h3, by omega, fun p np => k _ _ (same_new np) ?_⟩
        · subst z
          cases ws with
          | nil => cases h1
          | cons _ _ => cases hl
        · exact mkT_rep r (same_new np) np upd_same (RepWs.flat hv kk.toNat)
      · cases e
  · cases e
def qRepL : Pr := pure2 fun S x y => match lstOf S x, y with
  | some ws, .d (.int k) => (match onlyD ws with
    | some ds => if decide (0 ≤ k ∧ k ≤ 1000000 ∧ ds.length * k.toNat ≤ 1000000) = true then some (.d (.lst (List.replicate k.toNat ds).flatten)) else none
    | none => none)
  | _, _ => none
theorem os_repL : OpS X (binaryOp .Mult) qRepL := fun pins s σ H x y v u Q I rx ry q => by
  obtain ⟨F, α, S, wx, wy, w, r, hx, hy, e, k⟩ := rQ_two q
  split at e
  · rename_i ws kk el
    unfold RepW Rep at hy
    subst hy
    obtain ⟨a, vs, rfl, ha, hv⟩ := lstOf_at r hx el
    split at e
    · rename_i ds ed
      split at e
      · rename_i hc
        cases e
        have hc := of_decide_eq_true hc
        have := onlyD_eq ed
        subst this
        have hl := hv.length
        rw [List.length_map] at hl
        refine op_rep pins s σ H _ _ v u Q I rx ry ⟨a, kk, vs, rfl, rfl, ha, by omega, by omega, by rw [← hl]; exact thou hc.2.2, fun p np => k _ _ (same_new np) (rw_d ?_)⟩
        unfold Rep
        refine ⟨p, _, rfl, r.fresh np, upd_same, ?_⟩
        have z := (RepWs.flat hv kk.toNat).stay (Stp.same (α := α) (S := S) (same_new (o := .lst (List.replicate kk.toNat vs).flatten) np)).stay (⟨[], by simp⟩ : α <+: α)
        refine RepWs.reps (α := α) ?_
        have e : ((List.replicate kk.toNat ds).flatten.map W.d) = (List.replicate kk.toNat (ds.map W.d)).flatten := by
          rw [List.map_flatten, List.map_replicate]
        rw [e]
        exact z
      · cases e
    · cases e
  · cases e
end
end Mi
set_option Elab.async false
set_option linter.all false
set_option maxRecDepth 100000
set_option maxHeartbeats 4000000
namespace Mi
open PySem PySem.Spec PyProof.Rows L2 He Wl
section
variable {X : Cx} {Wx : WX} {a b c : Expr} {pos : Pos}
def pa3S (i j l : Nat) (as : MA) : MS := fun τ S => (as τ S).out τ fun ws S1 => match ws with
  | [u, v, w] => .nx (((τ.set i (some u)).set j (some v)).set l (some w)) S1
  | _ => .no
theorem ms_par3 {i j l : Nat} {x y z : Str} {as : MA} {px py pz pt : Pos} {kt k2 pt2} (hc : X.calm = true) (hN : X.N.Nodup) (hi : X.N[i]? = some x) (hj : X.N[j]? = some y) (hl : X.N[l]? = some z) (hij : i ≠ j) (hil : i ≠ l) (hjl : j ≠ l)
    (hx : X.env.scope.names.lookup x = some .local) (hy : X.env.scope.names.lookup y = some .local) (hz : X.env.scope.names.lookup z = some .local) (ha : EA X Wx [a, b, c] as)
    (hw : swappedStores [.Tuple [.Name x px, .Name y py, .Name z pz] kt pt] (.Tuple [a, b, c] k2 pt2) X.env = pure (some [x, y, z]))
    (hs : swapsWithSole [.Tuple [.Name x px, .Name y py, .Name z pz] kt pt] (.Tuple [a, b, c] k2 pt2) pos.line X.env = pure false := by rfl) :
    ES X Wx (.Assign [.Tuple [.Name x px, .Name y py, .Name z pz] kt pt] (.Tuple [a, b, c] k2 pt2) pos) (pa3S i j l as) := PS.imp (ps_par3 hc hN hi hj hl hij hil hjl hx hy hz ha hw hs) fun D σ H h =>
  tS_then (R := rWs X.gx) (k := fun ws τ S1 => match ws with
    | [u, v, w] => .nx (((τ.set i (some u)).set j (some v)).set l (some w)) S1
    | _ => .no) h fun v H1 F α S τ w r sl rw' f => by
    split at f
    · rename_i w1 w2 w3
      unfold rWs RepWs at rw'
      obtain ⟨v1, r1, rfl, h1, h2⟩ := rw'
      unfold RepWs at h2
      obtain ⟨v2, r2, rfl, h3, h4⟩ := h2
      unfold RepWs at h4
      obtain ⟨v3, r3, rfl, h5, h6⟩ := h4
      unfold RepWs at h6
      subst h6
      exact ⟨v1, v2, v3, rfl, f α H1 _ r Stp.refl (((sl.set h1).set h3).set h5)⟩
    · exact f.elim
end
end Mi
set_option Elab.async false
set_option linter.all false
set_option maxRecDepth 100000
set_option maxHeartbeats 4000000
namespace Mi
open PySem PySem.Spec PyProof.Rows L2 He Wl
@[irreducible] def fuel : Nat := 2 ^ 20000
section
variable {X : Cx} {Wx : WX}
theorem mv (i : Nat) {x : Str} {pos : Pos} (hN : X.N[i]? = some x := by rfl) (hv : Vis X.env.scope x := by first | exact Or.inl rfl | exact Or.inr (Or.inl rfl) | exact Or.inr (Or.inr rfl)) (hd : (x == ("__debug__" : Str)) = false := by decide) (hcd : (x == ("__classdict__" : Str)) = false := by decide) :
    EE X Wx (.Name x pos) (vM i) := me_var hN hv hd hcd
def qADD : Pr := orQ qAddI (orQ qAddS (orQ qCat qCatT))
theorem os_add : OpS X (binaryOp .Add) qADD := os_addI.or (os_addS.or (os_cat.or os_catT))
def qMUL : Pr := orQ qMulI (orQ qRepL qRepT)
theorem os_mul : OpS X (binaryOp .Mult) qMUL := os_mulI.or (os_repL.or os_repT)
def qLT : Pr := orQ qLtI qLtS
theorem os_lt : OpS X (compareOp .Lt) qLT := os_ltI.or os_ltS
def qLE : Pr := orQ qLeI qLeS
theorem os_le : OpS X (compareOp .LtE) qLE := os_leI.or os_leS
def qIX : Pr := orQ qIx qIxD
theorem is_IX (hu : X.A.units + 64 < cLine) : IxS X qIX := is_ix.or (is_ixD hu)
def qSET : PrS := orS qSetL qSetD
theorem sq_set (hu : X.A.units + 64 < cLine) : SetQ X qSET := sq_list.or (sq_dict hu)
def qIN : Pr := orQ qIn (orQ qInD qInSg)
theorem os_IN (hu : X.A.units + 64 < cLine) : OpS X (compareOp .In) qIN := (os_in hu).or ((os_inD hu).or os_inSg)
def qNI : Pr := orQ qNi (orQ qNiD qNiSg)
theorem os_NI (hu : X.A.units + 64 < cLine) : OpS X (compareOp .NotIn) qNI := (os_ni hu).or ((os_niD hu).or os_niSg)
def qLEN : Pr := orQ qLen qLenD
theorem cs_LEN : CallS X (.builtin "len") qLEN := cs_len.or cs_lenD
variable {T id : String} {q : Pr} {o e : Expr} {es : List Expr} {mo : ME} {mr : MA} {name : Str} {apos cpos : Pos}
theorem dict_ty {pins : List (Addr × Obj)} {σ : L2.St} {H : Hp} {s : Shared} {F : Addr → Prop} {α : List Addr} {S : Sto} {w : W} {v : V} {u : Value} (I : Inv X pins σ H s) (r : Rel X.gx F α S H) (h : RepW X.gx H (XX F α S) α w v) (ru : RelV v u) (e : tyD S w = true) :
    s.TypeIs u "dict" ∧ ∀ a, u = .ref a → ∃ ob, s.heap.get? a = some ob ∧ ob.dict = none := by
  unfold tyD at e
  rw [Option.isSome_iff_exists] at e
  obtain ⟨⟨ks, ws⟩, e⟩ := e
  obtain ⟨a, vs, R, rfl, dt, _, hR⟩ := dctOf_at r h e
  cases (show u = Value.ref a from ru)
  have : ∃ o, s.heap.get? a = some o ∧ o.ExactDict := by
    rcases dt with ⟨kvs, h, _⟩ | ⟨es, h, _⟩ | ⟨ps, h, _⟩
    · obtain ⟨_, _, vs, _, o, es, ep, h1, h2, _⟩ := (show ObjOk X.prog X.w H s.heap a (.dK kvs) from hR pins σ s I _ h)
      exact ⟨o, h1, h2⟩
    · obtain ⟨⟨_, _, _, us, o, ar, ep, _, h1, h2, _⟩, _⟩ := (show ObjOk X.prog X.w H s.heap a (DnO X.gx a es) from hR pins σ s I _ h)
      exact ⟨o, h1, h2⟩
    · obtain ⟨⟨_, _, o, ar, ep, h1, h2, _⟩, _⟩ := (show ObjOk X.prog X.w H s.heap a (MxO a ps) from hR pins σ s I _ h)
      exact ⟨o, h1, h2⟩
  obtain ⟨o, h1, h2⟩ := this
  exact ⟨⟨o, h1, h2.1⟩, fun b z => by cases z; exact ⟨o, h1, h2.2.1⟩⟩
theorem me_bmD (slot : Slot "dict" name id) (hty : typeOf (.builtin id) = pure (.type "method_descriptor")) (hm : MtQ X id q) (ho : EE X Wx o mo) (ha : EA X Wx (e :: es) mr)
    (hbase : attributeBase o name X.env (eval o X.env) = eval o X.env := by rfl)
    (hfew : ((backTo cpos (starEach (e :: es) X.env)).all (fun x => !x.1) && (backToKw cpos (keywordEach [] X.env)).all (fun x => x.1.isSome)
      && decide ((e :: es).length + ([] : List Keyword).length + (if ([] : List Keyword).isEmpty then 0 else 1) < 30)) = true := by rfl)
    (hline : (apos.endLine == cpos.line) = true := by rfl) (hs : starEach (e :: es) X.env = (false, eval e X.env) :: starEach es X.env := by rfl) (hplain : (backTo cpos (starEach es X.env)).any (·.1) = false := by rfl) :
    EE X Wx (.Call (.Attribute o name apos) (e :: es) [] cpos) (bmM tyD q mo mr) := by
  refine ⟨fun pins s σ H Q I h => ?_⟩
  have h1 : tE X Wx mo σ H fun x H1 => (∀ pins σ' s' u, Inv X pins σ' H1 s' → RelV x u → s'.TypeIs u "dict" ∧ ∀ a, u = .ref a → ∃ ob, s'.heap.get? a = some ob ∧ ob.dict = none) ∧ tAr X Wx mr σ H1 fun vs H2 => rQ X.gx q (x :: vs) H2 Q := by
    refine tM_then (R1 := rW X.gx) (k := fun w τ S1 => if tyD S1 w = true then (mr τ S1).bind fun ws S2 => run q (w :: ws) S2 else .no) h fun v H1 ⟨F, α, S, τ, b1, r, sl, q1, f⟩ => ?_
    dsimp only at f
    split at f
    · rename_i ht
      refine ⟨fun pins σ' s' u I' ru => dict_ty I' r q1 ru ht, ?_⟩
      have hk : tK (rW X.gx) (rW X.gx) X.gx Wx (fun w τ S1 => (mr τ S1).bind fun ws S2 => run q (w :: ws) S2) v σ H1 Q := ⟨F, α, S, τ, b1, r, sl, q1, f⟩
      exact tK_then (R2 := rWs X.gx) (k := fun p _ S2 => run q (p.1 :: p.2) S2) (stay_W _) hk fun vs H2 ⟨F, α, S, τ, ⟨b1, b2⟩, r, sl, ⟨q1, q2⟩, f⟩ => rQ_of r (RepWs.mkC q1 q2) f
    · exact f.elim
  refine wpAny_Call_method_late hbase hfew hline rfl (thn (ho.run pins s σ H _ I h1) fun v s1 ⟨x, H1, I1, r1, ty, q1⟩ => ?_)
  obtain ⟨h1, h2⟩ := ty pins σ s1 v I1 r1
  refine ⟨"dict", id, PySem.F.plainAttrs_dict, slot, hty, h1, h2, ?_⟩
  have hA := ha.run cpos pins s1 σ H1 _ I1 q1
  rw [hs] at hA ⊢
  refine Calls.callWith_builtin (by show (false || (backTo cpos (starEach es X.env)).any (·.1)) = false; rw [hplain] <;> rfl) (Calls.evalArgs_plain ?_)
  exact thn hA fun us s2 ⟨vs, H2, I2, r2, q2⟩ => hm pins s2 σ H2 x vs v us Q I2 r1 r2 q2
end
end Mi
set_option Elab.async false
set_option linter.all false
set_option maxRecDepth 100000
set_option maxHeartbeats 4000000
namespace Mi
open PySem PySem.Spec PyProof.Rows L2 He Wl
mutual
/-- only the first n things are named -/
def uptoW (n : Nat) : W → Bool
  | .d _ => true
  | .loc k => decide (k < n)
  | .tup ws => uptoWs n ws
def uptoWs (n : Nat) : List W → Bool
  | [] => true
  | w :: ws => uptoW n w && uptoWs n ws
end
def O.upto (n : Nat) : O → Bool
  | .lst ws => uptoWs n ws
  | .dct _ ws => uptoWs n ws
  | .ins _ _ ws => uptoWs n ws
  | .fz _ => true
  | .fzl ws => uptoWs n ws
  | .fzd _ ws => uptoWs n ws
@[simp] theorem uptoW_d (n : Nat) (x : D) : uptoW n (.d x) = true := by unfold uptoW; rfl
@[simp] theorem uptoWs_map (n : Nat) : ∀ xs : List D, uptoWs n (xs.map .d) = true
  | [] => by unfold uptoWs; rfl
  | x :: xs => by
    rw [List.map_cons]
    unfold uptoWs
    rw [uptoW_d, uptoWs_map n xs]; rfl
section
variable {G : Gx} {F : Addr → Prop} {α α' : List Addr} {S S' : Sto} {H H' : Hp} {X X' : Addr → Prop} {n : Nat}
mutual
theorem RepW.cut (l : ∀ a, X' a → X a) (g : ∀ k, k < n → α'[k]? = α[k]?) : ∀ {w : W} {v : V}, uptoW n w = true → RepW G H X α' w v → RepW G H X' α w v
  | .d x, v, u, h => by unfold RepW at h ⊢; exact h.less l
  | .loc k, v, u, h => by
    unfold RepW at h ⊢
    unfold uptoW at u
    obtain ⟨a, e, r⟩ := h
    exact ⟨a, by rw [← g k (by simpa using u)]; exact e, r⟩
  | .tup ws, v, u, h => by
    unfold RepW at h ⊢
    unfold uptoW at u
    obtain ⟨a, vs, e, na, ha, r⟩ := h
    exact ⟨a, vs, e, fun z => na (l a z), ha, RepWs.cut l g u r⟩
theorem RepWs.cut (l : ∀ a, X' a → X a) (g : ∀ k, k < n → α'[k]? = α[k]?) : ∀ {ws : List W} {vs : List V}, uptoWs n ws = true → RepWs G H X α' ws vs → RepWs G H X' α ws vs
  | [], vs, u, h => by unfold RepWs at h ⊢; exact h
  | w :: ws, vs, u, h => by
    unfold RepWs at h ⊢
    unfold uptoWs at u
    rw [Bool.and_eq_true] at u
    obtain ⟨v, r, e, h1, h2⟩ := h
    exact ⟨v, r, e, RepW.cut l g u.1 h1, RepWs.cut l g u.2 h2⟩
end
theorem ObjAt.cut {a : Addr} {o : O} (l : ∀ a, X' a → X a) (g : ∀ k, k < n → α'[k]? = α[k]?) (u : o.upto n = true) (h : ObjAt G H X α' a o) : ObjAt G H X' α a o := by
  cases o with
  | lst ws => obtain ⟨vs, h1, h2⟩ := h; exact ⟨vs, h1, h2.cut l g u⟩
  | dct ks ws => obtain ⟨vs, h1, h2⟩ := h; exact ⟨vs, h1.stay ⟨fun _ _ e _ => e, fun a _ _ z => l a z⟩ (fun _ h => h), h2.cut l g u⟩
  | ins c fs ws => obtain ⟨dx, vs, h1, nd, h2, h3, h4⟩ := h; exact ⟨dx, vs, h1, fun z => nd (l _ z), h2, h3, h4.cut l g u⟩
  | fz x => exact Rep.less h l
  | fzl ws => obtain ⟨vs, na, h1, h2⟩ := h; exact ⟨vs, fun z => na (l _ z), h1, h2.cut l g u⟩
  | fzd ks ws => obtain ⟨vs, na, h1, h2⟩ := h; exact ⟨vs, fun z => na (l _ z), h1.stay ⟨fun _ _ e _ => e, fun a _ _ z => l a z⟩ (fun _ h => h), h2.cut l g u⟩
theorem cut_rel (r : Rel G F α S H) (r' : Rel G F α' S' H') (s' : Stp α S H α' S' H') (hu : (S'.take S.length).all (O.upto S.length) = true) :
    Rel G F α (S'.take S.length) H' ∧ Stp α S H α (S'.take S.length) H' ∧ (∀ b, XX F α (S'.take S.length) b → XX F α' S' b) ∧ (∀ (k : Nat) b, α'[k]? = some b → S.length ≤ k → ¬ XX F α (S'.take S.length) b) ∧ ∀ k, k < S.length → α'[k]? = α[k]? := by
  obtain ⟨t, et⟩ := s'.pre
  have hl : α.length = S.length := r.len
  have hl' : α'.length = S'.length := r'.len
  have hle : S.length ≤ S'.length := by rw [← hl', ← et, List.length_append]; omega
  have ga : ∀ k, k < S.length → α'[k]? = α[k]? := fun k hk => by rw [← et, List.getElem?_append_left (by omega)]
  have gs : ∀ k o, (S'.take S.length)[k]? = some o → k < S.length ∧ S'[k]? = some o := fun k o e => by
    have hk : k < S.length := by
      have := (List.getElem?_eq_some_iff.mp e).1
      rw [List.length_take] at this
      omega
    rw [List.getElem?_take_of_lt hk] at e
    exact ⟨hk, e⟩
  have ow : ∀ b, own α (S'.take S.length) b → own α' S' b := fun b ⟨i, o, e1, e2, e3⟩ =>
    let ⟨hi, e2'⟩ := gs i o e2
    ⟨i, o, by rw [ga i hi]; exact e1, e2', e3⟩
  have l : ∀ b, XX F α (S'.take S.length) b → XX F α' S' b := fun b z => z.elim .inl fun z => .inr (ow b z)
  refine ⟨⟨?_, r.nd, r.fr, r'.fd, fun i a e => ?_, fun i a o e1 e2 => ?_⟩, ⟨⟨[], by simp⟩, s'.keep, fun a o h z => s'.less a o h (ow a z)⟩, l, fun k b ek hk z => ?_, ga⟩
  · rw [List.length_take]; omega
  · have hi := (List.getElem?_eq_some_iff.mp e).1
    exact r'.ad i a (by rw [ga i (by omega)]; exact e)
  · obtain ⟨hi, e2'⟩ := gs i o e2
    exact (r'.obj i a o (by rw [ga i hi]; exact e1) e2').cut l ga (List.all_eq_true.mp hu o (List.mem_of_getElem? e2))
  · rcases z with z | ⟨i, o, e1, e2, e3⟩
    · exact r'.fr b z (List.mem_of_getElem? ek)
    · obtain ⟨hi, _⟩ := gs i o e2
      have := nodup_at r'.nd ek (by rw [ga i hi]; exact e1)
      omega
def lowW (n : Nat) (S' : Sto) (w : W) : Option W := if uptoW n w = true then some w else (toD n S' w).map .d
@[simp] theorem lowW_d (n : Nat) (S' : Sto) (x : D) : lowW n S' (.d x) = some (.d x) := by simp [lowW]
theorem lowW_rep {Y : Addr → Prop} (r' : Rel G F α' S' H') (l : ∀ b, Y b → XX F α' S' b) (off : ∀ (k : Nat) b, α'[k]? = some b → n ≤ k → ¬ Y b) (ga : ∀ k, k < n → α'[k]? = α[k]?) {w w' : W} {v : V} (h : RepW G H' (XX F α' S') α' w v) (e : lowW n S' w = some w') : RepW G H' Y α w' v := by
  unfold lowW at e
  split at e
  · rename_i u
    cases e
    exact h.cut l ga u
  · rw [Option.map_eq_some_iff] at e
    obtain ⟨x, e, rfl⟩ := e
    exact rw_d (toDf_rep r' l off 4 h e)
theorem lowWs_rep {Y : Addr → Prop} (r' : Rel G F α' S' H') (l : ∀ b, Y b → XX F α' S' b) (off : ∀ (k : Nat) b, α'[k]? = some b → n ≤ k → ¬ Y b) (ga : ∀ k, k < n → α'[k]? = α[k]?) : ∀ {ws ws' : List W} {vs : List V}, RepWs G H' (XX F α' S') α' ws vs → mapO (lowW n S') ws = some ws' → RepWs G H' Y α ws' vs
  | [], ws', vs, h, e => by cases e; unfold RepWs at h ⊢; exact h
  | w :: ws, ws', vs, h, e => by
    unfold RepWs at h
    obtain ⟨v, rr, rfl, h1, h2⟩ := h
    rw [mapO_cons, Option.bind_eq_some_iff] at e
    obtain ⟨y, e1, e⟩ := e
    rw [Option.bind_eq_some_iff] at e
    obtain ⟨ys, e2, e⟩ := e
    cases e
    exact RepWs.mkC (lowW_rep r' l off ga h1 e1) (lowWs_rep r' l off ga h2 e2)
def lowT (n : Nat) : Res W → Res W
  | .ok w S' => (match lowW n S' w with
    | some x => if (S'.take n).all (O.upto n) = true then .ok x (S'.take n) else .no
    | none => .no)
  | .ex c fs xs S' => (match mapO (lowW n S') xs with
    | some ys => if (S'.take n).all (O.upto n) = true then .ex c fs ys (S'.take n) else .no
    | none => .no)
  | .no => .no
def callT (m : MF) (ws : List W) (S : Sto) : Res W := lowT S.length (m ws S)
theorem callT_ok {Q : VK} {E : XK} {m : MF} {ws : List W} {vs : List V} (r : Rel G F α S H) (h : RepWs G H (XX F α S) α ws vs) (f : Fin (rW G) G F α S H Q E (callT m ws S)) : spM G m vs H Q E := by
  refine ⟨F, α, S, ws, r, h, ?_⟩
  unfold callT at f
  cases em : m ws S with
  | no => rw [em] at f; exact f
  | ok w S' =>
    rw [em] at f
    unfold lowT at f
    dsimp only at f
    intro α' H' v r' s' h'
    split at f
    · rename_i x ex
      split at f
      · rename_i hu
        obtain ⟨rc, sc, l, off, ga⟩ := cut_rel r r' s' hu
        exact f α H' v rc sc (lowW_rep r' l off ga h' ex)
      · exact f.elim
    · exact f.elim
  | ex c fs xs S' =>
    rw [em] at f
    unfold lowT at f
    dsimp only at f
    intro α' H' d r' s' h'
    split at f
    · rename_i ys ey
      split at f
      · rename_i hu
        obtain ⟨rc, sc, l, off, ga⟩ := cut_rel r r' s' hu
        refine f α H' d rc sc ?_
        rcases h' with ⟨e1, e2, e3⟩ | ⟨a, us, e1, na, h1, h2, h3⟩
        · subst e3; cases ey; exact .inl ⟨e1, e2, rfl⟩
        · exact .inr ⟨a, us, e1, fun z => na (l a z), h1, h2, lowWs_rep r' l off ga h3 ey⟩
      · exact f.elim
    · exact f.elim
end
theorem wayT {G : Gx} {m : MF} : Way G (spM G m) (callT m) := fun _ _ _ _ _ _ _ _ r h f => callT_ok r h f
end Mi
set_option Elab.async false
set_option linter.all false
set_option maxRecDepth 100000
set_option maxHeartbeats 4000000
namespace Mi
open PySem PySem.Spec PyProof.Rows L2 He Wl
def ZS (z TI TO i1 i2 l1 l2 S : Addr) (xs ys : Array Value) (i : Nat) (h : Heap) : Prop :=
  IsPair h TI (.ref i1) (.ref i2) ∧ h.IsListIter i1 l1 i ∧ h.IsListIter i2 l2 i ∧ h.IsList l1 xs ∧ h.IsList l2 ys ∧
    ((IsZip h z TI TO .none ∧ ∃ a b, IsPair h TO a b) ∨ ∃ T f oT, IsZipHeld h z TI TO T f ∧ h.get? T = some oT ∧ T ≠ z ∧ T ≠ i1 ∧ T ≠ i2 ∧ T ≠ S)
structure ZOff (z TI TO i1 i2 l1 l2 S : Addr) : Prop where
  z : S ≠ z
  TI : S ≠ TI
  TO : S ≠ TO
  i1 : S ≠ i1
  i2 : S ≠ i2
  l1 : S ≠ l1
  l2 : S ≠ l2
section
variable {prog : Program} {w : World} {A : Around} {E : Value → Shared → Prop} {s : Shared} {z TI TO i1 i2 l1 l2 S : Addr} {xs ys : Array Value} {i : Nat}
theorem ZS.frame {h h' : Heap} (o : ZOff z TI TO i1 i2 l1 l2 S) (st : ZS z TI TO i1 i2 l1 l2 S xs ys i h) (hk : ∀ b u, b ≠ S → h.get? b = some u → h'.get? b = some u) : ZS z TI TO i1 i2 l1 l2 S xs ys i h' := by
  obtain ⟨hTI, h1, h2, hl1, hl2, hz⟩ := st
  refine ⟨hk _ _ (Ne.symm o.TI) hTI, h1.at fun u e => hk _ u (Ne.symm o.i1) e, h2.at fun u e => hk _ u (Ne.symm o.i2) e, hl1.at fun u e => hk _ u (Ne.symm o.l1) e, hl2.at fun u e => hk _ u (Ne.symm o.l2) e, ?_⟩
  rcases hz with ⟨hz, a, b, hTO⟩ | ⟨T, f, oT, hz, hT, r1, r2, r3, r4⟩
  · exact .inl ⟨hk _ _ (Ne.symm o.z) hz, a, b, hk _ _ (Ne.symm o.TO) hTO⟩
  · exact .inr ⟨T, f, oT, hk _ _ (Ne.symm o.z) hz, hk _ _ r4 hT, r1, r2, r3, r4⟩
theorem ZS.item {Q : Option Value → Shared → Prop} (D : ZipApart z TI TO i1 i2 l1 l2) (st : ZS z TI TO i1 i2 l1 l2 S xs ys i s.heap) (hi : i < min xs.size ys.size) (hS : S < s.heap.objs.size)
    (hQ : ∀ h' x y, xs[i]? = some x → ys[i]? = some y → IsPair h' s.heap.objs.size x y → ZS z TI TO i1 i2 l1 l2 S xs ys (i + 1) h' → (∀ c u, c ∉ [z, TO, i1, i2] → s.heap.get? c = some u → h'.get? c = some u) → Q (some (.ref s.heap.objs.size)) { s with heap := h' }) :
    wpAny (model prog w) A (pyNext (.ref z)) Q E s := by
  obtain ⟨hTI, h1, h2, hl1, hl2, hz⟩ := st
  have hix : i < xs.size := Nat.lt_of_lt_of_le hi (Nat.min_le_left ..)
  have hiy : i < ys.size := Nat.lt_of_lt_of_le hi (Nat.min_le_right ..)
  have ex := Array.getElem?_eq_getElem hix
  have ey := Array.getElem?_eq_getElem hiy
  have lt : ∀ {c o}, s.heap.get? c = some o → s.heap.objs.size ≠ c := fun e => Nat.ne_of_gt (Heap.lt_size e)
  have n1 : s.heap.objs.size ≠ i1 := let ⟨_, e, _⟩ := h1; lt e
  have n2 : s.heap.objs.size ≠ i2 := let ⟨_, e, _⟩ := h2; lt e
  rcases hz with ⟨hz, a, b, hTO⟩ | ⟨T, f, oT, hz, hT, r1, r2, r3, r4⟩
  · refine wpAny_pyNext_zip_item D hz hTI hTO h1 h2 hl1 hl2 ex ey fun h' a1 a2 a3 a4 a5 a6 hk => ?_
    exact hQ h' _ _ ex ey a5
      ⟨hk _ _ D.TIz D.TITO D.TIi1 D.TIi2 hTI, a3, a4, hl1.at fun o e => hk _ o D.l1z D.l1TO D.l1i1 D.l1i2 e, hl2.at fun o e => hk _ o D.l2z D.l2TO D.l2i1 D.l2i2 e,
        .inr ⟨s.heap.objs.size, false, _, a1, a5, lt hz, n1, n2, Nat.ne_of_gt hS⟩⟩
      fun c o hc e => hk c o (fun x => hc (by simp [x])) (fun x => hc (by simp [x])) (fun x => hc (by simp [x])) (fun x => hc (by simp [x])) e
  · refine wpAny_pyNext_zip_item_held D hz hT hTI h1 h2 hl1 hl2 ex ey fun h' a1 a3 a4 a5 a6 hk => ?_
    exact hQ h' _ _ ex ey a5
      ⟨hk _ _ D.TIz D.TIi1 D.TIi2 hTI, a3, a4, hl1.at fun o e => hk _ o D.l1z D.l1i1 D.l1i2 e, hl2.at fun o e => hk _ o D.l2z D.l2i1 D.l2i2 e,
        .inr ⟨T, true, oT, a1, hk _ _ r1 r2 r3 hT, r1, r2, r3, r4⟩⟩
      fun c o hc e => hk c o (fun x => hc (by simp [x])) (fun x => hc (by simp [x])) (fun x => hc (by simp [x])) e
theorem ZS.done {Q : Option Value → Shared → Prop} (hA : A.handled = none) (D : ZipApart z TI TO i1 i2 l1 l2) (st : ZS z TI TO i1 i2 l1 l2 S xs ys (min xs.size ys.size) s.heap)
    (hQ : ∀ h', (∀ c u, c ∉ [z, TO, i1, i2] → s.heap.get? c = some u → h'.get? c = some u) → Q none { s with heap := h' }) : wpAny (model prog w) A (pyNext (.ref z)) Q E s := by
  obtain ⟨hTI, h1, h2, hl1, hl2, hz⟩ := st
  have hend : xs[min xs.size ys.size]? = none ∨ ys[min xs.size ys.size]? = none := by
    rcases Nat.le_total xs.size ys.size with h | h
    · exact .inl (Array.getElem?_eq_none (by rw [Nat.min_eq_left h]; exact Nat.le_refl _))
    · exact .inr (Array.getElem?_eq_none (by rw [Nat.min_eq_right h]; exact Nat.le_refl _))
  rcases hz with ⟨hz, a, b, hTO⟩ | ⟨T, f, oT, hz, hT, r1, r2, r3, r4⟩
  · exact wpAny_pyNext_zip_end hA D hz hTI hTO h1 h2 hl1 hl2 hend fun h' hk => hQ h' fun c o hc e => hk c o (fun x => hc (by simp [x])) (fun x => hc (by simp [x])) (fun x => hc (by simp [x])) (fun x => hc (by simp [x])) e
  · exact wpAny_pyNext_zip_end_held hA D hz hT hTI h1 h2 hl1 hl2 hend fun h' hk => hQ h' fun c o hc e => hk c o (fun x => hc (by simp [x])) (fun x => hc (by simp [x])) (fun x => hc (by simp [x])) e
end
structure MadeZ (xs ys : Array Value) (lo : Addr) (h : Heap) (as : List Addr) : Prop where
  rise : as.Pairwise (· < ·)
  above : ∀ a ∈ as, lo ≤ a
  pairs : ∀ (j : Nat) (a : Addr), as[j]? = some a → ∃ x y, xs[j]? = some x ∧ ys[j]? = some y ∧ IsPair h a x y
theorem MadeZ.there {xs ys : Array Value} {lo : Addr} {h : Heap} {as : List Addr} (g : MadeZ xs ys lo h as) {a : Addr} (ha : a ∈ as) : a < h.objs.size := by
  obtain ⟨j, hj⟩ := List.mem_iff_getElem?.mp ha
  obtain ⟨_, _, _, _, e⟩ := g.pairs j a hj
  exact Heap.lt_size e
section
variable {prog : Program} {w : World} {A : Around} {s : Shared} {R : Result → Shared → Prop} {z TI TO i1 i2 l1 l2 S lo : Addr} {xs ys : Array Value}
end
section
variable {prog : Program} {w : World} {A : Around} {E : Value → Shared → Prop} {s : Shared} {z TI TO i1 i2 l1 l2 : Addr} {xs ys : Array Value}
end
structure LZOk (H1 : Hp) (xs ys : List V) (as : List Addr) (p : Addr) (H' : Hp) : Prop where
  len : as.length = min xs.length ys.length
  same : Same H1 H'
  np : H1 p = none
  lst : H' p = some (.lst (as.map V.ref))
  tup : ∀ (j : Nat) a, as[j]? = some a → H1 a = none ∧ ∃ x y, xs[j]? = some x ∧ ys[j]? = some y ∧ H' a = some (.tup [x, y])
section
variable {X : Cx} {a b : Expr} {ta : TA} {p p2 pos pos2 : Pos}
end
end Mi
set_option Elab.async false
set_option linter.all false
set_option maxRecDepth 100000
set_option maxHeartbeats 4000000
namespace Mi
open PySem PySem.Spec PyProof.Rows L2 He Wl
section
variable {X : Cx} {pos : Pos} {us : List Nat}
end
end Mi
set_option Elab.async false
set_option linter.all false
set_option maxRecDepth 100000
set_option maxHeartbeats 4000000
namespace Mi
open PySem PySem.Spec PyProof.Rows L2 He Wl
def DSm1 (G : Gx) : Eqv := fun x y H => (∃ a, x = .ref a ∧ y = .ref a) ∨ ∃ (Y : Addr → Prop) (d e : D), Rep G H Y d x ∧ Rep G H Y e y ∧ plainD 8 d = true ∧ plainD 8 e = true ∧ eqD d e = true
theorem mon_sm1 {G : Gx} : Mon (DSm1 G) := fun x y H H' e d => by
  rcases d with d | ⟨Y, d, e', h1, h2, r⟩
  · exact .inl d
  · have st : Stay Y Y H H' := ⟨fun a o h _ => e a o h, fun a o _ z => z⟩
    exact .inr ⟨Y, d, e', h1.stay st, h2.stay st, r⟩
theorem eqG_sm1 {X : Cx} : EqG X 0 (DSm1 X.gx) := by
  intro A pins s σ H x y u v sb I rx ry d
  rcases d with ⟨a, rfl, rfl⟩ | ⟨Y, d, e, h1, h2, p1, p2, q⟩
  · cases rx
    cases ry
    exact SeqAt.EqAt.same (A := A) (s := s) (.ref a) X.prog X.w X.xe _ ⟨rfl, H, I, Ext.rfl'⟩
  · obtain ⟨n1, e1⟩ := plainD_py p1
    obtain ⟨n2, e2⟩ := plainD_py p2
    obtain ⟨as, r1⟩ := Dp.reads I n1 x u (rep_dp e1 h1) rx
    obtain ⟨bs, r2⟩ := Dp.reads I n2 y v (rep_dp e2 h2) ry
    have hu := sb.room.units
    have hz := (toPy_ok e1).2
    have := SeqAt.eqAt_plain n1 n2 A s u v as bs r1 r2 (toPy_ok e1).1 (toPy_ok e2).1 (by have := Nat.min_le_left n1.depth n2.depth; omega)
    rw [toPy_eq e1 e2, q] at this
    exact this X.prog X.w X.xe _ ⟨rfl, H, I, Ext.rfl'⟩
def DSm2 (G : Gx) : Eqv := fun x y H => ∃ Y : Addr → Prop, Rep G H Y (.dct [] []) x ∧ Rep G H Y (.dct [] []) y
theorem mon_sm2 {G : Gx} : Mon (DSm2 G) := fun x y H H' e ⟨Y, h1, h2⟩ => by
  have st : Stay Y Y H H' := ⟨fun a o h _ => e a o h, fun a o _ z => z⟩
  exact ⟨Y, h1.stay st, h2.stay st⟩
theorem dict_nil {X : Cx} {pins : List (Addr × Obj)} {σ : L2.St} {H : Hp} {s : Shared} {Y : Addr → Prop} {x : V} {u : Value} (I : Inv X pins σ H s) (h : Rep X.gx H Y (.dct [] []) x) (r : RelV x u) :
    ∃ a, u = .ref a ∧ (a == sysModules) = false ∧ s.heap.DictOf (intKind X.prog X.w) a [] := by
  unfold Rep at h
  obtain ⟨a, vs, rfl, _, h, _⟩ := h
  cases (show u = Value.ref a from r)
  refine ⟨a, rfl, ?_⟩
  rcases h with ⟨kvs, ⟨o, h⟩, e, _⟩ | ⟨es, ⟨o, h⟩, e, _⟩ | ⟨ps, _, _, _, e3⟩
  rotate_left 2
  · cases e3
  · have e0 : kvs = [] := by simpa using e
    subst e0
    obtain ⟨_, ns, vs', kv, o', es, ep, h1, h2, h3, h4, h5, h6⟩ := (show ObjOk X.prog X.w H s.heap a (.dK []) from (show ObjOk X.prog X.w H s.heap a (.frz o (.dK [])) from I.hok a _ h).2)
    have : vs' = [] := by cases kv; rfl
    subst this
    have hes : es.toList = [] := by
      have := h5.length
      simpa using this
    refine ⟨ns, o', es, ep, h1, h2, h3, fun e he => ?_, ?_, List.nodup_nil⟩
    · rw [Array.mem_def, hes] at he; cases he
    · rw [hes]; exact .nil
  · have e0 : es = [] := by simpa using e
    subst e0
    obtain ⟨⟨_, ns, _, us, o', ar, ep, pr, h1, h2, h3, h4⟩, _⟩ := (show ObjOk X.prog X.w H s.heap a (DnO X.gx a []) from (show ObjOk X.prog X.w H s.heap a (.frz o (DnO X.gx a [])) from I.hok a _ h).2)
    have hes : ar.toList = [] := by rw [h4]; rfl
    refine ⟨ns, o', ar, ep, h1, h2, h3, fun e he => ?_, ?_, List.nodup_nil⟩
    · rw [Array.mem_def, hes] at he; cases he
    · rw [hes]; exact .nil
theorem eqG_sm2 {X : Cx} : EqG X 0 (DSm2 X.gx) := by
  intro A pins s σ H x y u v sb I rx ry ⟨Y, h1, h2⟩
  obtain ⟨a, rfl, na, da⟩ := dict_nil I h1 rx
  obtain ⟨b, rfl, nb, db⟩ := dict_nil I h2 ry
  by_cases hab : a = b
  · subst hab
    exact SeqAt.EqAt.same (A := A) (s := s) (.ref a) X.prog X.w X.xe _ ⟨rfl, H, I, Ext.rfl'⟩
  · exact SeqAt.EqIn.of_refs hab (fun E Q hq => PySem.W.eq_dictsT (n := 0) (e := fun _ => true) na nb da db (fun k v y hm => nomatch hm) (by have := sb.room.units; omega) hq) _ _ ⟨rfl, H, I, Ext.rfl'⟩
def DSm3 (G : Gx) : Eqv := fun x y H => ∃ (Y : Addr → Prop) (r : Rat), Rep G H Y (.rat r) x ∧ Rep G H Y (.rat r) y
theorem mon_sm3 {G : Gx} : Mon (DSm3 G) := fun x y H H' e ⟨Y, r, h1, h2⟩ => by
  have st : Stay Y Y H H' := ⟨fun a o h _ => e a o h, fun a o _ z => z⟩
  exact ⟨Y, r, h1.stay st, h2.stay st⟩
def EqSelf (m : MF) : Prop := ∀ r : Rat, m [.d (.rat r), .d (.rat r)] [] = .ok (.d (.bl true)) []
theorem eqG_sm3 {X : Cx} {cs : List Str} {m : MF} {f : Addr} {k : Nat} (Fc : KF X.K cs) (M : Meth X.K (ga X.K ratS) "__eq__" f) (F : FnR X.prog X.w X.K X.mg X.base (L2.CX X.prog X.w) k f (spM X.gx m)) (hm : EqSelf m) : EqG X k (DSm3 X.gx) := by
  refine eqG_own (DSm3 X.gx) M.at_ M.fn F fun x y H ⟨Y, r, h1, h2⟩ => ?_
  have l : ∀ a, XX (fun _ => False) [] [] a → Y a := fun a z => z.elim False.elim fun ⟨n, o, e, _⟩ => (nomatch e)
  have a1 := h1.less l
  have a2 := h2.less l
  unfold Rep at h1 h2
  obtain ⟨a, dx, rfl, _, _, s1⟩ := h1
  obtain ⟨b, dy, rfl, _, _, s2⟩ := h2
  refine ⟨a, dx, _, .ref (ga X.K ratS), rfl, s1, ?_, ?_, ?_⟩
  · exact .inr ⟨rfl, b, dy, _, rfl, s2⟩
  · exact kf_notFirst Fc (t := .c ratS) (by simp [okT])
  · refine ⟨fun _ => False, [], [], [.d (.rat r), .d (.rat r)], ⟨rfl, List.nodup_nil, fun _ z => z.elim, fun _ z => z.elim, fun _ _ e => (nomatch e), fun _ _ _ e => (nomatch e)⟩, RepWs.mk2 (rw_d a1) (rw_d a2), ?_⟩
    rw [hm r]
    intro α' H' v _ s' h'
    have h2 : RepW X.gx H' (XX (fun _ => False) α' []) α' (.d (.bl true)) v := h'
    unfold RepW Rep at h2
    exact ⟨h2, fun a o e => s'.keep a o e fun ⟨n, o, e, _⟩ => (nomatch e)⟩
def DSm (G : Gx) : Eqv := fun x y H => DSm1 G x y H ∨ (DSm2 G x y H ∨ DSm3 G x y H)
theorem mon_sm {G : Gx} : Mon (DSm G) := mon_sm1.or (mon_sm2.or mon_sm3)
section
variable {G : Gx} {F : Addr → Prop} {α : List Addr} {S : Sto} {H : Hp}
end
section
variable {G : Gx} {F : Addr → Prop} {α : List Addr} {S : Sto} {H : Hp}
end
end Mi
set_option Elab.async false
set_option linter.all false
set_option maxRecDepth 100000
set_option maxHeartbeats 4000000
namespace Mi
open PySem PySem.Spec PyProof.Rows L2 He Wl
section
variable {X : Cx} {Wx : WX}
theorem ms_dead {sts : List Stmt} : ESs X Wx sts (fun _ _ => .no) := ⟨fun _ _ _ _ _ _ ⟨_, _, _, _, _, _, z⟩ => False.elim z⟩
section
variable {P : Program} {w : World} {K : PySem.W.Frag} {mg : Str → Option Value} {base : Heap} {x qual : Str} {params : Arguments} {scope : Scope} {N ps : List Str} {f : Addr} {st : Stmt} {rest : List Stmt} {k n more : Nat} {m1 : MS}
end
end
end Mi
set_option Elab.async false
set_option linter.all false
set_option maxRecDepth 100000
set_option maxHeartbeats 4000000
namespace Mi
open PySem PySem.Spec PyProof.Rows L2 He Wl
structure LcAtW (G : Gx) (F : Addr → Prop) (α1 : List Addr) (S1 : Sto) (H1 : Hp) (d : Addr) (α : List Addr) (S : Sto) (H : Hp) (ds : List W) : Prop where
  rel : Rel G (fun a => F a ∨ a = d) α S H
  stp : Stp α1 S1 H1 α S H
  acc : ∃ vs, H d = some (.lst vs) ∧ RepWs G H (XX (fun a => F a ∨ a = d) α S) α ds vs
section
variable {G : Gx} {F : Addr → Prop} {α1 α α' : List Addr} {S1 S S' : Sto} {H1 H H' : Hp} {d : Addr} {ds : List W}
theorem LcAtW.first (r : Rel G F α1 S1 H1) (nd : H1 d = none) : LcAtW G F α1 S1 H1 d α1 S1 (upd H1 d (.lst [])) [] := by
  have sm : Same H1 (upd H1 d (.lst [])) := same_new nd
  refine ⟨⟨r.len, r.nd, fun a z hz => ?_, fun a z => ?_, fun n a h => ?_, fun n a o h1 h2 => ?_⟩, Stp.same sm, [], upd_same, by unfold RepWs; rfl⟩
  · rcases z with z | z
    · exact r.fr a z hz
    · subst z
      obtain ⟨n, h⟩ := List.getElem?_of_mem hz
      obtain ⟨o, e⟩ := r.ad n _ h
      rw [nd] at e; cases e
  · rcases z with z | z
    · obtain ⟨o, e⟩ := r.fd a z; exact ⟨o, sm _ _ e⟩
    · subst z; exact ⟨_, upd_same⟩
  · obtain ⟨o, e⟩ := r.ad n a h; exact ⟨o, sm _ _ e⟩
  · refine (r.obj n a o h1 h2).stay ⟨fun a u e _ => sm a u e, fun a u e z => ?_⟩ ⟨[], by simp⟩ fun u e _ => sm _ _ e
    rcases z with (z | z) | z
    · exact .inl z
    · subst z; rw [nd] at e; cases e
    · exact .inr z
theorem LcAtW.on (c : LcAtW G F α1 S1 H1 d α S H ds) (r : Rel G (fun a => F a ∨ a = d) α' S' H') (s : Stp α S H α' S' H') : LcAtW G F α1 S1 H1 d α' S' H' ds := by
  obtain ⟨vs, h1, h2⟩ := c.acc
  have nd : ¬ own α S d := fun ⟨n, o, e, _⟩ => c.rel.fr d (.inr rfl) (List.mem_of_getElem? e)
  exact ⟨r, c.stp.trans s, vs, s.keep _ _ h1 nd, h2.stay s.stay s.pre⟩
theorem LcAtW.push (c : LcAtW G F α1 S1 H1 d α S H ds) (nd1 : H1 d = none) {x : W} {v : V} {vs : List V} (hd : H d = some (.lst vs)) (hx : RepW G H (XX (fun a => F a ∨ a = d) α S) α x v) : LcAtW G F α1 S1 H1 d α S (upd H d (.lst (vs ++ [v]))) (ds ++ [x]) := by
  obtain ⟨vs', h1, h2⟩ := c.acc
  rw [hd] at h1; cases h1
  obtain ⟨r2, st⟩ := Rel.out (o := .lst (vs ++ [v])) c.rel (.inr rfl)
  refine ⟨r2, ⟨c.stp.pre, fun a o e n => ?_, c.stp.less⟩, _, upd_same, (RepWs.append (RepWs.mk1 hx) h2).stay st ⟨[], by simp⟩⟩
  rw [upd_ne (ne_of_none e nd1)]
  exact c.stp.keep a o e n
end
section
variable {X : Cx} {Wx : WX} {us : List Nat}
variable {elt tg iter : Expr} {pos : Pos} {mi : MA} {g : MG} {t : MT} {e : ME}
end
end Mi
set_option Elab.async false
set_option linter.all false
set_option maxRecDepth 100000
set_option maxHeartbeats 4000000
namespace Mi
open PySem PySem.Spec PyProof.Rows L2 He Wl
end Mi
set_option Elab.async false
set_option linter.all false
set_option maxRecDepth 100000
set_option maxHeartbeats 4000000
namespace Mi
open PySem PySem.Spec PyProof.Rows L2 He Wl
section
variable {X : Cx}
variable {e : Expr} {apos cpos : Pos}
end
end Mi
set_option Elab.async false
set_option linter.all false
set_option maxRecDepth 100000
set_option maxHeartbeats 4000000
namespace Mi
open PySem PySem.Spec PyProof.Rows L2 He Wl
def isFlatK : NK → Bool
  | .num _ => true
  | .text _ => true
  | _ => false
theorem nkK_inj {a b : Key} (h : nkK a = nkK b) : a = b := by
  cases a <;> cases b <;> simp [nkK] at h <;> simp [h]
section
variable {X : Cx} {pins : List (Addr × Obj)} {σ : L2.St} {H : Hp} {s : Shared} {F : Addr → Prop} {α : List Addr} {S : Sto}
theorem all_val (k : Key) : ∀ kvs : List (Key × V), (kvs.any fun kv => decide (kv.1 = k)) = (kvs.map fun p => nkK p.1).contains (nkK k)
  | [] => rfl
  | p :: r => by
    have ih := all_val k r
    rw [List.any_cons, List.map_cons, List.contains_cons, ih]
    congr 1
    by_cases h : p.1 = k
    · simp [h]
    · have : ¬ nkK k = nkK p.1 := fun e => h (nkK_inj e).symm
      simp [h, this]
theorem putK_keys (kvs : List (Key × V)) (k : Key) (v : V) : (putK kvs k v).map (fun p => nkK p.1) = putKs (kvs.map fun p => nkK p.1) (nkK k) := by
  unfold putK putKs
  rw [all_val]
  split
  · rw [List.map_map]
    apply List.map_congr_left
    intro p _
    show nkK (if p.1 = k then (p.1, v) else p).1 = nkK p.1
    split <;> rfl
  · simp
theorem dRep_val (k : Key) (v : V) : ∀ kvs : List (Key × V), (kvs.map fun kv => if kv.1 = k then (kv.1, v) else kv).map (·.2) = dRep (kvs.map fun p => nkK p.1) (kvs.map (·.2)) (nkK k) v
  | [] => rfl
  | p :: r => by
    rw [List.map_cons, List.map_cons, List.map_cons, List.map_cons]
    unfold dRep
    rw [dRep_val k v r]
    congr 1
    by_cases h : p.1 = k
    · simp [h]
    · have : ¬ nkK p.1 = nkK k := fun e => h (nkK_inj e)
      simp [h, this]
theorem putK_vals (kvs : List (Key × V)) (k : Key) (v : V) : (putK kvs k v).map (·.2) = putVs (kvs.map fun p => nkK p.1) (kvs.map (·.2)) (nkK k) v := by
  unfold putK putVs
  rw [all_val]
  split
  · exact dRep_val k v kvs
  · simp
end
end Mi
set_option Elab.async false
set_option linter.all false
set_option maxRecDepth 100000
set_option maxHeartbeats 4000000
namespace Mi
open PySem PySem.Spec PyProof.Rows L2 He Wl
section
variable {X : Cx} {Wx : WX} {a b c e o : Expr} {es : List Expr} {pos : Pos} {m mo mi me : ME} {mr : MA}
end
section
variable {X : Cx} {pins : List (Addr × Obj)} {σ : L2.St} {H : Hp} {s : Shared} {F : Addr → Prop} {α : List Addr} {S : Sto}
end
end Mi
set_option Elab.async false
set_option linter.all false
set_option maxRecDepth 100000
set_option maxHeartbeats 4000000
namespace Mi
open PySem PySem.Spec PyProof.Rows L2 He Wl
section
variable {X : Cx} {pins : List (Addr × Obj)} {σ : L2.St} {H : Hp} {s : Shared} {F : Addr → Prop} {α : List Addr} {S : Sto}
end
end Mi
set_option Elab.async false
set_option linter.all false
set_option maxRecDepth 100000
set_option maxHeartbeats 4000000
namespace Mi
open PySem PySem.Spec PyProof.Rows L2 He Wl
def putF (G : Gx) : TPut := fun D y z H Nx => ∃ (Y : Addr → Prop) (ks : List NK) (vs : List V) (j : Key), y = kV j ∧ DictAt G H Y D (fun o => H D = some o) ks vs ∧ ks.all isFlatK = true ∧ ks.length < 1000000 ∧
  ∀ kvs : List (Key × V), kvs.map (fun p => nkK p.1) = ks → kvs.map (·.2) = vs → Nx (upd H D (.dK (putK kvs j z)))
section
variable {X : Cx}
end
section
variable {G : Gx} {F : Addr → Prop} {α1 α α' : List Addr} {S1 S S' : Sto} {H1 H H' : Hp} {d : Addr} {ks : List NK} {ds : List D}
theorem DcAt.putF (c : DcAt G F α1 S1 H1 d α S H ks ds) (nd1 : H1 d = none) {x : D} {v : V} {j : Key} {kvs : List (Key × V)} {vs : List V} (hr : Reps G H (XX (fun a => F a ∨ a = d) α S) ds vs)
    (e1 : kvs.map (fun p => nkK p.1) = ks) (e2 : kvs.map (·.2) = vs) (hx : Rep G H (XX (fun a => F a ∨ a = d) α S) x v) :
    DcAt G F α1 S1 H1 d α S (upd H d (.dK (putK kvs j v))) (putKs ks (nkK j)) (putVs ks ds (nkK j) x) := by
  obtain ⟨r2, st⟩ := Rel.out (o := .dK (putK kvs j v)) c.rel (.inr rfl)
  refine ⟨r2, ⟨c.stp.pre, fun a o e n => ?_, c.stp.less⟩, putVs ks vs (nkK j) v, .inl ⟨putK kvs j v, upd_same, by rw [putK_keys, e1], by rw [putK_vals, e1, e2]⟩, (Reps.put hx hr).stay st⟩
  rw [upd_ne (ne_of_none e nd1)]
  exact c.stp.keep a o e n
end
section
variable {X : Cx} {Wx : WX} {us : List Nat}
variable {kx vx tg iter : Expr} {pos : Pos} {mi mr : MA} {g : MG} {t : MT} {mk mv' : ME} {ifs : List Expr} {scope : Scope} {own : List (Str × Nat)}
end
end Mi
set_option Elab.async false
set_option linter.all false
set_option maxRecDepth 100000
set_option maxHeartbeats 4000000
namespace Mi
open PySem PySem.Spec PyProof.Rows L2 He Wl
section
variable {X : Cx}
end
end Mi
set_option Elab.async false
set_option linter.all false
set_option maxRecDepth 100000
set_option maxHeartbeats 4000000
namespace Mi
open PySem PySem.Spec PyProof.Rows L2 He Wl
end Mi
set_option Elab.async false
set_option linter.all false
set_option maxRecDepth 100000
set_option maxHeartbeats 4000000
namespace Mi
open PySem PySem.Spec PyProof.Rows L2 He Wl
section
variable {G : Gx} {F : Addr → Prop} {α : List Addr} {S : Sto} {H : Hp} {Q : VK} {E : XK} {m : MF} {ws : List W} {vs : List V}
end
end Mi
set_option Elab.async false
set_option linter.all false
set_option maxRecDepth 100000
set_option maxHeartbeats 4000000
namespace Mi
open PySem PySem.Spec PyProof.Rows L2 He Wl
section
variable {X : Cx} {Wx : WX} {us : List Nat}
variable {elt tg iter : Expr} {pos : Pos} {mo : ME} {g : MG} {t : MT} {e : ME}
end
def sN : Nat → D → D → Bool
  | 0, a, b => (match a, b with
    | .rat r, .rat q => decide (r = q)
    | _, _ => plainD 8 a && (plainD 8 b && eqD a b))
  | n + 1, a, b => sN 0 a b || (match a, b with
    | .tup xs, .tup ys => sNs n xs ys
    | .lst xs, .lst ys => sNs n xs ys
    | _, _ => false)
where sNs (n : Nat) : List D → List D → Bool
  | [], [] => true
  | x :: xs, y :: ys => sN n x y && sNs n xs ys
  | _, _ => false
section
variable {G : Gx} {H : Hp} {Y : Addr → Prop}
end
end Mi
set_option Elab.async false
set_option linter.all false
set_option maxRecDepth 100000
set_option maxHeartbeats 4000000
namespace Mi
open PySem PySem.Spec PyProof.Rows L2 He Wl
def fzL (f : Sto → W → Option (D × Sto)) : Sto → List W → Option (List D × Sto)
  | S, [] => some ([], S)
  | S, w :: ws => match f S w with
    | some (x, S1) => (match fzL f S1 ws with
      | some (xs, S2) => some (x :: xs, S2)
      | none => none)
    | none => none
def fzW : Nat → Sto → W → Option (D × Sto)
  | _, S, .d x => some (x, S)
  | 0, _, _ => none
  | n + 1, S, .tup ws => (fzL (fzW n) S ws).map fun p => (.tup p.1, p.2)
  | n + 1, S, .loc k => match S[k]? with
    | some (.lst ws) => (match fzL (fzW n) S ws with
      | some (ds, S1) => (match S1[k]? with
        | some (.lst _) => some (.lst ds, S1.set k (.fz (.lst ds)))
        | _ => none)
      | none => none)
    | some (.fz x) => some (x, S)
    | _ => none
section
variable {G : Gx} {F : Addr → Prop} {α : List Addr} {H : Hp}
theorem fzL_ok {f : Sto → W → Option (D × Sto)} (hf : ∀ {S S' : Sto} {w : W} {v : V} {x : D}, Rel G F α S H → RepW G H (XX F α S) α w v → f S w = some (x, S') → Rel G F α S' H ∧ Stp α S H α S' H ∧ Rep G H (XX F α S') x v) :
    ∀ {ws : List W} {vs : List V} {S S' : Sto} {xs : List D}, Rel G F α S H → RepWs G H (XX F α S) α ws vs → fzL f S ws = some (xs, S') → Rel G F α S' H ∧ Stp α S H α S' H ∧ Reps G H (XX F α S') xs vs
  | [], vs, S, S', xs, r, h, e => by
    cases e
    unfold RepWs at h
    subst h
    exact ⟨r, Stp.refl, by unfold Reps; rfl⟩
  | w :: ws, vs, S, S', xs, r, h, e => by
    unfold RepWs at h
    obtain ⟨v, vs', rfl, h1, h2⟩ := h
    unfold fzL at e
    split at e
    · rename_i x S1 e1
      split at e
      · rename_i ys S2 e2
        cases e
        obtain ⟨r1, s1, p1⟩ := hf r h1 e1
        obtain ⟨r2, s2, p2⟩ := fzL_ok hf r1 (h2.stp s1) e2
        refine ⟨r2, s1.trans s2, ?_⟩
        unfold Reps
        exact ⟨v, vs', rfl, p1.stay s2.stay, p2⟩
      · cases e
    · cases e
theorem fzW_ok : ∀ (n : Nat) {S S' : Sto} {w : W} {v : V} {x : D}, Rel G F α S H → RepW G H (XX F α S) α w v → fzW n S w = some (x, S') → Rel G F α S' H ∧ Stp α S H α S' H ∧ Rep G H (XX F α S') x v
  | n, S, S', .d y, v, x, r, h, e => by
    have e : some (y, S) = some (x, S') := by
      cases n <;> (unfold fzW at e; exact e)
    cases e
    unfold RepW at h
    exact ⟨r, Stp.refl, h⟩
  | 0, S, S', .loc k, v, x, r, h, e => by unfold fzW at e; cases e
  | 0, S, S', .tup ws, v, x, r, h, e => by unfold fzW at e; cases e
  | n + 1, S, S', .tup ws, v, x, r, h, e => by
    unfold fzW at e
    rw [Option.map_eq_some_iff] at e
    obtain ⟨⟨ds, S1⟩, e1, e2⟩ := e
    cases e2
    unfold RepW at h
    obtain ⟨a, vs, rfl, na, h1, h2⟩ := h
    obtain ⟨r1, s1, p1⟩ := fzL_ok (fzW_ok n) r h2 e1
    refine ⟨r1, s1, ?_⟩
    unfold Rep
    exact ⟨a, vs, rfl, fun z => (s1.stay (F := F)).off h1 na z, (s1.stay (F := F)).keep _ _ h1 na, p1⟩
  | n + 1, S, S', .loc k, v, x, r, h, e => by
    unfold RepW at h
    obtain ⟨a, ea, rfl⟩ := h
    unfold fzW at e
    split at e
    · rename_i ws es
      split at e
      · rename_i ds S1 e1
        split at e
        · rename_i us eu
          cases e
          obtain ⟨vs, h1, h2⟩ := r.obj k a _ ea es
          obtain ⟨r1, s1, p1⟩ := fzL_ok (fzW_ok n) r h2 e1
          obtain ⟨r2, s2, p2⟩ := freeze (x := .lst ds) r1 ea eu fun Y l ny => by
            unfold Rep
            exact ⟨a, vs, rfl, ny, h1, p1.less l⟩
          exact ⟨r2, s1.trans s2, p2⟩
        · cases e
      · cases e
    · rename_i y es
      cases e
      exact ⟨r, Stp.refl, r.obj k a _ ea es⟩
    · cases e
end
theorem SlotsR.as {G : Gx} {H : Hp} {X : Addr → Prop} {α : List Addr} {τ : Sl} {σ : L2.St} {i : Nat} {w w' : W} (h : SlotsR G H X α τ σ) (e : τ[i]? = some (some w)) (r : ∀ v, RepW G H X α w v → RepW G H X α w' v) : SlotsR G H X α (τ.set i (some w')) σ := by
  refine ⟨by simp [h.len], fun j w2 e2 => ?_⟩
  by_cases hj : i = j
  · subst hj
    have hl : i < τ.length := (List.getElem?_eq_some_iff.mp e).1
    rw [List.getElem?_set_self hl] at e2
    cases e2
    obtain ⟨v, e3, r3⟩ := h.at_ i w e
    exact ⟨v, e3, r v r3⟩
  · rw [List.getElem?_set_ne hj] at e2
    exact h.at_ j w2 e2
def fvS (i : Nat) (m : MS) : MS := fun τ S => match τ[i]? with
  | some (some w) => (match fzW 4 S w with
    | some (x, S') => m (τ.set i (some (.d x))) S'
    | none => .no)
  | _ => .no
section
variable {X : Cx}
theorem ms_fv {Wx : WX} {st : Stmt} {m : MS} (i : Nat) (h : ES X Wx st m) : ES X Wx st (fvS i m) := ⟨fun pins s σ H D I ⟨F, α, S, τ, r, sl, f⟩ => by
  unfold fvS at f
  split at f
  · rename_i w ew
    split at f
    · rename_i x S' ex
      have key : ∀ v, RepW X.gx H (XX F α S) α w v → Rel X.gx F α S' H ∧ Stp α S H α S' H ∧ Rep X.gx H (XX F α S') x v := fun v hv => fzW_ok 4 r hv ex
      obtain ⟨v, e1, hv⟩ := sl.at_ i w ew
      obtain ⟨r', s', hx⟩ := key v hv
      refine h.run pins s σ H D I ⟨F, α, S', τ.set i (some (.d x)), r', ?_, FinS.stp s' f⟩
      have sl' := sl.stp s'
      refine ⟨by simp [sl.len], fun j w2 e2 => ?_⟩
      by_cases hj : i = j
      · subst hj
        have hl : i < τ.length := (List.getElem?_eq_some_iff.mp ew).1
        rw [List.getElem?_set_self hl] at e2
        cases e2
        exact ⟨v, e1, rw_d hx⟩
      · rw [List.getElem?_set_ne hj] at e2
        exact sl'.at_ j w2 e2
    · exact f.elim
  · exact f.elim⟩
end
end Mi
set_option Elab.async false
set_option linter.all false
set_option maxRecDepth 100000
set_option maxHeartbeats 4000000
namespace Mi
open PySem PySem.Spec PyProof.Rows L2 He Wl
def sE0 (a b : D) : Bool := match a, b with
  | .rat r, .rat q => decide (r = q)
  | .dct [] [], .dct [] [] => true
  | _, _ => plainD 8 a && (plainD 8 b && eqD a b)
def sE : Nat → D → D → Bool
  | 0, a, b => sE0 a b
  | n + 1, a, b => sE0 a b || (match a, b with
    | .tup xs, .tup ys => sEs n xs ys
    | .lst xs, .lst ys => sEs n xs ys
    | _, _ => false)
where sEs (n : Nat) : List D → List D → Bool
  | [], [] => true
  | x :: xs, y :: ys => sE n x y && sEs n xs ys
  | _, _ => false
section
variable {G : Gx} {H : Hp} {Y : Addr → Prop}
theorem sE0_of {a b : D} {v u : V} (e : sE0 a b = true) (h1 : Rep G H Y a v) (h2 : Rep G H Y b u) : DSm G v u H := by
  unfold sE0 at e
  split at e
  · have q := of_decide_eq_true e
    subst q
    exact .inr (.inr ⟨_, _, h1, h2⟩)
  · exact .inr (.inl ⟨_, h1, h2⟩)
  · obtain ⟨p1, e⟩ := ba e
    obtain ⟨p2, e⟩ := ba e
    exact .inl (.inr ⟨_, a, b, h1, h2, p1, p2, e⟩)
end
section
variable {X : Cx} {cs : List Str} {m : MF} {f : Addr} {k : Nat}
end
end Mi
set_option Elab.async false
set_option linter.all false
set_option maxRecDepth 100000
set_option maxHeartbeats 4000000
namespace Mi
open PySem PySem.Spec PyProof.Rows L2 He Wl
section
variable {X : Cx}
end
end Mi
set_option Elab.async false
set_option linter.all false
set_option maxRecDepth 100000
set_option maxHeartbeats 4000000
namespace Mi
open PySem PySem.Spec PyProof.Rows L2 He Wl
section
variable {X : Cx}
end
end Mi
set_option Elab.async false
set_option linter.all false
set_option maxRecDepth 100000
set_option maxHeartbeats 4000000
namespace Mi
open PySem PySem.Spec PyProof.Rows L2 He Wl
section
variable {X : Cx} {pins : List (Addr × Obj)} {σ : L2.St} {H : Hp} {s : Shared}
end
end Mi
set_option Elab.async false
set_option linter.all false
set_option maxRecDepth 100000
set_option maxHeartbeats 4000000
namespace Mi
open PySem PySem.Spec PyProof.Rows L2 He Wl
section
variable {X : Cx} {Wx : WX} {e : Expr} {m : ME} {pos : Pos}
end
end Mi
set_option Elab.async false
set_option linter.all false
set_option maxRecDepth 100000
set_option maxHeartbeats 4000000
namespace Mi
open PySem PySem.Spec PyProof.Rows L2 He Wl
def flatT : NK → Bool
  | .tup l => l.all fun k => match k with
    | .tup _ => false
    | _ => true
  | _ => false
def IsN (P : Program) (w : World) (h : Heap) (k : NK) (b : Addr) : Prop := (nestedKind P w).is h k b ∧ flatT k = true
section
variable {P : Program} {w : World} {A : Around} {E : Value → Shared → Prop} {s : Shared}
theorem IsN.keep {h h' : Heap} {k : NK} {b : Addr} (x : IsN P w h k b) (hk : ∀ (c : Addr) (o : Obj) vs n, h.get? c = some o → o.data = .seq vs n → h'.get? c = some o) : IsN P w h' k b :=
  ⟨⟨NestedIs.at (fun c o vs n h1 h2 => hk c o vs n h1 h2) k _ x.1.1, x.1.2⟩, x.2⟩
abbrev hN (w : World) (p : Addr × NK) : Int := p.2.hash w
def rowsN (w : World) (L : List (Addr × NK)) : List (Int × Value) := L.map fun p => (hN w p, Value.ref p.1)
structure SN (P : Program) (w : World) (h : Heap) (a : Addr) (L : List (Addr × NK)) (es : Array (Int × Value)) (t : SetTable) : Prop where
  ob : ∃ o ep, h.get? a = some o ∧ o.ExactSet ∧ o.data = .set es ep t
  rows : es.toList = rowsN w L
  tab : TabOk t (L.map (hN w))
  nd : (L.map (·.2)).Nodup
  tup : ∀ p ∈ L, IsN P w h p.2 p.1
  led : w.params.followText "set-order" = true ∨ t.led = true
  room : L.length * 5 < t.mask * 3
  few : L.length < 64
variable {a : Addr} {L : List (Addr × NK)} {es : Array (Int × Value)} {t : SetTable}
theorem rowsN_len {L : List (Addr × NK)} (h : es.toList = rowsN w L) : es.size = L.length := by
  have := congrArg List.length h
  simpa [rowsN] using this
theorem SN.size (R : SN P w s.heap a L es t) : es.size = L.length := rowsN_len R.rows
structure InN (ks : List (Addr × NK)) (i : Nat) (L : List (Addr × NK)) : Prop where
  sub : ∀ p ∈ L, p ∈ ks.take i
  all : ∀ p ∈ ks.take i, p.2 ∈ L.map (·.2)
  len : L.length ≤ i
theorem InN.next {ks L L' : List (Addr × NK)} {i : Nat} {x : Addr × NK} (g : InN ks i L) (h : ks[i]? = some x) (c1 : x.2 ∈ L.map (·.2) → L' = L) (c2 : x.2 ∉ L.map (·.2) → L'.Perm (x :: L)) : InN ks (i + 1) L' := by
  have et : ks.take (i + 1) = ks.take i ++ [x] := by rw [List.take_succ, h]; rfl
  rcases Classical.em (x.2 ∈ L.map (·.2)) with c | c
  · rw [c1 c]
    refine ⟨fun p hp => ?_, fun p hp => ?_, Nat.le_succ_of_le g.len⟩
    · rw [et]; exact List.mem_append_left _ (g.sub p hp)
    · rw [et] at hp
      rcases List.mem_append.mp hp with z | z
      · exact g.all p z
      · rw [List.mem_singleton.mp z]; exact c
  · have pm := c2 c
    refine ⟨fun p hp => ?_, fun p hp => ?_, ?_⟩
    · rw [et]
      rcases List.mem_cons.mp (pm.mem_iff.mp hp) with e | z
      · rw [e]; exact List.mem_append_right _ (List.mem_singleton.mpr rfl)
      · exact List.mem_append_left _ (g.sub p z)
    · rw [(pm.map (·.2)).mem_iff, List.map_cons]
      rw [et] at hp
      rcases List.mem_append.mp hp with z | z
      · exact List.mem_cons_of_mem _ (g.all p z)
      · rw [List.mem_singleton.mp z]; exact List.mem_cons_self
    · rw [pm.length_eq, List.length_cons]
      exact Nat.succ_le_succ g.len
theorem SN.keep {h h' : Heap} {a : Addr} {L : List (Addr × NK)} {es : Array (Int × Value)} {t : SetTable} (R : SN P w h a L es t) (ha : ∀ o, h.get? a = some o → h'.get? a = some o) (ht : ∀ p ∈ L, IsN P w h' p.2 p.1) : SN P w h' a L es t := by
  obtain ⟨o, ep, ho, r⟩ := R.ob
  exact ⟨⟨o, ep, ha o ho, r⟩, R.rows, R.tab, R.nd, ht, R.led, R.room, R.few⟩
abbrev set0 (w : World) : Obj := { cls := .type "set", dict := none, data := .set #[] 0 (.fresh 0 0 (!w.params.followText "set-order")) }
theorem SN.start {h : Heap} {a : Addr} (ho : h.get? a = some (set0 w)) : SN P w h a [] #[] (.fresh 0 0 (!w.params.followText "set-order")) where
  ob := ⟨_, 0, ho, ⟨rfl, rfl, rfl⟩, rfl⟩
  rows := rfl
  tab := ⟨List.Pairwise.nil, rfl, rfl, .inl rfl, fun x hx => (by cases hx), fun i h j hi => (by simp at hi)⟩
  nd := List.nodup_nil
  tup := fun p hp => (by cases hp)
  led := by
    show _ ∨ (!w.params.followText "set-order") = true
    cases w.params.followText "set-order"
    · exact .inr rfl
    · exact .inl rfl
  room := by
    show 0 * 5 < 7 * 3
    decide
  few := by
    show 0 < 64
    decide
end
end Mi
set_option Elab.async false
set_option linter.all false
set_option maxRecDepth 100000
set_option maxHeartbeats 4000000
namespace Mi
open PySem PySem.Spec PyProof.Rows L2 He Wl
section
variable {G : Gx} {H : Hp} {Y Z : Addr → Prop}
variable {a : Addr} {vs0 : List V} {ds : List D}
mutual
theorem KeyAt.off (ha : H a = some (.lst vs0)) : ∀ {k : NK} {v : V}, KeyAt H Y k v → KeyAt H (fun b => Y b ∨ b = a) k v
  | .none, v, h => by unfold KeyAt at h ⊢; exact h
  | .num i, v, h => by unfold KeyAt at h ⊢; exact h
  | .text x, v, h => by unfold KeyAt at h ⊢; exact h
  | .tup ks, v, h => by
    unfold KeyAt at h ⊢
    obtain ⟨b, vs, e, n, hb, r⟩ := h
    exact ⟨b, vs, e, fun z => z.elim n fun z => (by rw [z, ha] at hb; cases hb), hb, KeysAt.off ha r⟩
theorem KeysAt.off (ha : H a = some (.lst vs0)) : ∀ {ks : List NK} {vs : List V}, KeysAt H Y ks vs → KeysAt H (fun b => Y b ∨ b = a) ks vs
  | [], vs, h => by unfold KeysAt at h ⊢; exact h
  | k :: ks, vs, h => by
    unfold KeysAt at h ⊢
    obtain ⟨v, r, e, h1, h2⟩ := h
    exact ⟨v, r, e, KeyAt.off ha h1, KeysAt.off ha h2⟩
end
theorem DictAt.off (ha : H a = some (.lst vs0)) {b : Addr} {R : HO → Prop} {ks : List NK} {vs : List V} (h : DictAt G H Y b R ks vs) : DictAt G H (fun b => Y b ∨ b = a) b R ks vs := by
  rcases h with ⟨kvs, h, e⟩ | ⟨es, h, e1, e2, h2⟩ | ⟨ps, h, e1, e2, e3⟩
  · exact .inl ⟨kvs, h, e⟩
  · exact .inr (.inl ⟨es, h, e1, e2, fun e he => ⟨(h2 e he).1, (h2 e he).2.1, (h2 e he).2.2.off ha⟩⟩)
  · exact .inr (.inr ⟨ps, h, e1.off ha, e2, e3⟩)
end
section
variable {G : Gx} {F : Addr → Prop} {α α' : List Addr} {S S' : Sto} {H H' : Hp}
theorem RepW.less {Y Y' : Addr → Prop} {w : W} {v : V} (h : RepW G H Y α w v) (l : ∀ a, Y' a → Y a) : RepW G H Y' α w v := h.stay ⟨fun _ _ e _ => e, fun a _ _ z => l a z⟩ ⟨[], by simp⟩
end
end Mi
set_option Elab.async false
set_option linter.all false
set_option maxRecDepth 100000
set_option maxHeartbeats 4000000
namespace Mi
open PySem PySem.Spec PyProof.Rows L2 He Wl
end Mi
set_option Elab.async false
set_option linter.all false
set_option maxRecDepth 100000
set_option maxHeartbeats 4000000
namespace Mi
open PySem PySem.Spec PyProof.Rows L2 He Wl
section
variable {X : Cx}
end
end Mi
set_option Elab.async false
set_option linter.all false
set_option maxRecDepth 100000
set_option maxHeartbeats 4000000
namespace Mi
open PySem PySem.Spec PyProof.Rows L2 He Wl
section
variable {P : Program} {w : World} {A : Around} {E : Value → Shared → Prop} {s : Shared}
variable {a : Addr} {L : List (Addr × NK)} {es : Array (Int × Value)} {t : SetTable}
end
end Mi
set_option Elab.async false
set_option linter.all false
set_option maxRecDepth 100000
set_option maxHeartbeats 4000000
namespace Mi
open PySem PySem.Spec PyProof.Rows L2 He Wl
end Mi
set_option Elab.async false
set_option linter.all false
set_option maxRecDepth 100000
set_option maxHeartbeats 4000000
namespace Mi
open PySem PySem.Spec PyProof.Rows L2 He Wl
section
variable {prog : Program} {w : World} {A : Around} {E : Value → Shared → Prop} {s : Shared}
inductive LeafV : Value → Prop
  | none : LeafV .none
  | int (i : Int) (t : Tok) : LeafV (.int i t)
  | str (x : Str) (t : Tok) : LeafV (.str x t)
def RefsFar (prog : Program) (w : World) (A : Around) (s : Shared) (u : Value) (es : Array DictEntry) : Prop :=
  ∀ e ∈ es, ∃ b, e.key = .ref b ∧ (∀ (E : Value → Shared → Prop) (Q : Bool → Shared → Prop), Q true s → wpAny (model prog w) A (eqIsQuiet 8 (.ref b)) Q E s) ∧
    ∀ (E : Value → Shared → Prop) (Q : Bool → Shared → Prop), Q false s → wpAny (model prog w) A (eqBool (.ref b) u) Q E s
theorem leaf_quiet {u : Value} {n : Nat} {Q : Bool → Shared → Prop} (hu : LeafV u) (q : Q true s) : wpAny (model prog w) A (eqIsQuiet n u) Q E s := by
  cases hu <;> (cases n <;> (unfold eqIsQuiet; exact wpAny_pure q))
theorem tell_far {u : Value} {es : Array DictEntry} {stored : List Value} {Q : Bool → Shared → Prop} (hu : LeafV u) (hf : RefsFar prog w A s u es) (hst : ∀ v ∈ stored, ∃ e ∈ es, e.key = v) (q : Q false s) : wpAny (model prog w) A (tableMayTell u stored) Q E s := by
  unfold tableMayTell
  split
  · exact wpAny_pure q
  · refine wpAny_bind (leaf_quiet hu ?_)
    simp only [Bool.not_true, Bool.false_eq_true, if_false]
    refine wpAny_bind ?_
    refine wpAny_forIn_list _ (fun rest r s' => s' = s ∧ r = (none, ()) ∧ ∀ v ∈ rest, ∃ e ∈ es, e.key = v) _ ?_ ?_ _ _ ⟨rfl, rfl, hst⟩
    · rintro x rest r s' ⟨rfl, rfl, hr⟩
      obtain ⟨e, he, rfl⟩ := hr x List.mem_cons_self
      obtain ⟨b, eb, h1, _⟩ := hf e he
      rw [eb]
      refine wpAny_bind (h1 _ _ ?_)
      simp only [Bool.not_true, Bool.false_eq_true, if_false]
      exact wpAny_pure ⟨rfl, rfl, fun v hv => hr v (List.mem_cons_of_mem _ hv)⟩
    · rintro r s' ⟨rfl, rfl, _⟩
      exact wpAny_pure q
theorem find_far {d : Addr} {o : Obj} {es : Array DictEntry} {ep : Nat} {u : Value} {h : Int} {Q : Option Nat → Shared → Prop} (hu : LeafV u) (hs : es.size ≠ 0 ∨ isExactStrKey u = false) (ho : s.heap.get? d = some o) (hd : o.data = .dict es ep)
    (hf : RefsFar prog w A s u es) (q : Q none s) : wpAny (model prog w) A (dictFind d u h) Q E s := by
  have hst : ∀ v ∈ (placesWithHash es.size (fun i => es[i]?.map (·.hash)) h).filterMap (fun i => es[i]?.map (·.key)), ∃ e ∈ es, e.key = v := by
    intro v hv
    obtain ⟨i, _, hi⟩ := List.mem_filterMap.mp hv
    cases hei : es[i]? with
    | none => rw [hei] at hi; cases hi
    | some e =>
      rw [hei] at hi
      exact ⟨e, Array.mem_of_getElem? hei, by simpa using hi⟩
  have hstr : isExactStrKey u = true → ¬ (es.all fun e => isExactStrKey e.key) = true := fun z hall => by
    rcases hs with hs | hs
    · have h0 : 0 < es.size := Nat.pos_of_ne_zero hs
      have := Array.all_eq_true.mp hall 0 h0
      obtain ⟨b, eb, _⟩ := hf es[0] (Array.getElem_mem h0)
      rw [eb] at this
      cases this
    · rw [hs] at z; cases z
  have walk : ∀ {P : List Nat}, (∀ i ∈ P, ∀ e, es[i]? = some e → False) → wpAny (model prog w) A (dictWalkPlain d u h es P) Q E s := fun {P} hP => by
    unfold dictWalkPlain
    refine wpAny_bind ?_
    refine wpAny_forIn_list _ (fun rest r s' => s' = s ∧ r = (none, ()) ∧ ∀ i ∈ rest, ∀ e, es[i]? = some e → False) _ ?_ ?_ _ _ ⟨rfl, rfl, hP⟩
    · rintro x rest r s' ⟨rfl, rfl, hr⟩
      cases he : es[x]? with
      | none => exact wpAny_pure ⟨rfl, rfl, fun v hv => hr v (List.mem_cons_of_mem _ hv)⟩
      | some e => exact absurd he (fun z => hr x List.mem_cons_self e z)
    · rintro r s' ⟨rfl, rfl, _⟩
      exact wpAny_pure q
  unfold dictFind
  refine wpAny_holding ?_
  refine wpAny_bind (wpAny_dictEntries ho hd ?_)
  have leafU : carriedByValue u = true := by cases hu <;> rfl
  have noRef : ∀ v ∈ (placesWithHash es.size (fun i => es[i]?.map (·.hash)) h).filterMap (fun i => es[i]?.map (·.key)), carriedByValue v = false := fun v hv => by
    obtain ⟨e, he, rfl⟩ := hst v hv
    obtain ⟨b, eb, _⟩ := hf e he
    rw [eb]; rfl
  have skip : isExactStrKey u = true → (es.all fun e => isExactStrKey e.key) = false := fun z => Bool.eq_false_iff.mpr (hstr z)
  have one : ∀ v ∈ (placesWithHash es.size (fun i => es[i]?.map (·.hash)) h).filterMap (fun i => es[i]?.map (·.key)), v ≠ u := fun v hv z => by
    have := noRef v hv
    rw [z, leafU] at this
    cases this
  generalize hP : placesWithHash es.size (fun i => es[i]?.map (·.hash)) h = P at hst noRef one
  by_cases hz : P.filterMap (fun i => es[i]?.map (·.key)) = []
  · have hall : ((u :: P.filterMap (fun i => es[i]?.map (·.key))).all carriedByValue) = true := by rw [hz]; simp [leafU]
    have hno : ∀ i ∈ P, ∀ e, es[i]? = some e → False := fun i hi e he => by
      have : e.key ∈ P.filterMap (fun i => es[i]?.map (·.key)) := List.mem_filterMap.mpr ⟨i, hi, by rw [he]; rfl⟩
      rw [hz] at this
      cases this
    cases hu <;> dsimp only <;> (try rw [skip rfl]) <;> (try simp only [Bool.false_eq_true, if_false]) <;> rw [if_pos hall] <;> exact walk hno
  · have hall : ¬ ((u :: P.filterMap (fun i => es[i]?.map (·.key))).all carriedByValue) = true := by
      obtain ⟨v, l, e⟩ := List.exists_cons_of_ne_nil hz
      intro z
      rw [List.all_cons, Bool.and_eq_true] at z
      have := List.all_eq_true.mp z.2 v (by rw [e]; exact List.mem_cons_self)
      rw [noRef v (by rw [e]; exact List.mem_cons_self)] at this
      cases this
    have hone : ¬ (P.filterMap (fun i => es[i]?.map (·.key)) == [u]) = true := by
      intro z
      have := eq_of_beq z
      exact one u (by rw [this]; exact List.mem_cons_self) rfl
    cases hu <;> dsimp only <;> (try rw [skip rfl]) <;> (try simp only [Bool.false_eq_true, if_false]) <;> rw [if_neg hall, if_neg hone] <;> (
      refine wpAny_bind (tell_far (by constructor) hf hst ?_)
      rw [if_neg (by simp)]
      refine wpAny_bind ?_
      refine wpAny_forIn_list _ (fun rest b s' => s' = s ∧ b = (none, none)) _ ?_ ?_ _ _ ⟨rfl, rfl⟩
      · rintro x rest b s' ⟨rfl, rfl⟩
        cases he : es[x]? with
        | none => exact wpAny_pure ⟨rfl, rfl⟩
        | some e =>
          dsimp only
          split
          · obtain ⟨b, eb, _, h2⟩ := hf e (Array.mem_of_getElem? he)
            rw [eb]
            refine wpAny_bind (wpAny_dictEpoch ho hd (wpAny_bind (h2 _ _ (wpAny_bind (wpAny_dictEpoch ho hd ?_)))))
            rw [if_neg (by simp)]
            simp only [Bool.false_eq_true, if_false]
            refine wpAny_bind (wpAny_rule ?_)
            first
              | exact wpAny_pure ⟨rfl, rfl⟩
              | (rw [if_neg (by simp)]; exact wpAny_pure ⟨rfl, rfl⟩)
              | (simp only [Bool.false_and, Bool.false_eq_true, if_false]; first | exact wpAny_pure ⟨rfl, rfl⟩ | exact wpAny_bind (wpAny_pure (wpAny_pure ⟨rfl, rfl⟩)))
          · exact wpAny_pure ⟨rfl, rfl⟩
      · rintro b s' ⟨rfl, rfl⟩
        exact wpAny_pure q)
theorem hash_leaf {u : Value} (hu : LeafV u) : ∃ hsh : Int, ∀ {A : Around} {E : Value → Shared → Prop} {s : Shared} {Q : Int → Shared → Prop}, Q hsh { s with toks := s.toks + 1 } → wpAny (model prog w) A (pyHash u) Q E s := by
  cases hu with
  | none => exact ⟨_, fun {A E s Q} q => (leafKind prog w).pyHash (k := .none) rfl q⟩
  | int i t => exact ⟨_, fun {A E s Q} q => (leafKind prog w).pyHash (k := .num i) (by show decide (i = i) = true; simp) q⟩
  | str x t => exact ⟨_, fun {A E s Q} q => (leafKind prog w).pyHash (k := .text x) (by show Value.isStrOf x (.str x t) = true; simp [Value.isStrOf]) q⟩
theorem set_far {d : Addr} {es : Array DictEntry} {ep : Nat} {u v : Value} {Q : Unit → Shared → Prop} (hu : LeafV u) (hs : es.size ≠ 0 ∨ isExactStrKey u = false) (hm : s.heap.DictRaw d es ep) (hz : es.size ≤ sizeLine)
    (hf : ∀ tk, RefsFar prog w A { s with toks := tk } u es) (q : ∀ (h' : Heap) tk (hsh : Int) ep', h'.DictRaw d (es.push ⟨hsh, u, v⟩) ep' → Heap.SameBut d s.heap h' → Q () { s with heap := h', toks := tk }) : wpAny (model prog w) A (dictSet d u v) Q E s := by
  obtain ⟨o, ho, hx, hd⟩ := hm
  obtain ⟨hsh, hh⟩ := hash_leaf (prog := prog) (w := w) hu
  unfold dictSet
  refine wpAny_holding ?_
  refine wpAny_bind (hh ?_)
  unfold dictSetHashed
  refine wpAny_holding ?_
  refine wpAny_bind (find_far (s := { s with toks := s.toks + 1 }) hu hs ho hd (hf _) ?_)
  refine wpAny_bind (wpAny_rule (wpAny_updateDictKeys (hz := hz) (s := { s with toks := s.toks + 1 }) ho hd ?_))
  exact q _ _ hsh (ep + 1) ⟨_, Heap.get?_update_self _ ho (Obj.isFreed_of_dict (Obj.data_mapDictKeys hd _)), hx.mapDictKeys _, Obj.data_mapDictKeys hd _⟩ (Heap.SameBut.update ..)
theorem refs_far {d : Addr} {xs : List (NK × Addr × Value)} {es : Array DictEntry} {j : NK} {u : Value} (hm : s.heap.DictOfH (nestedKind prog w) d xs) (he : es.toList = xs.map (entryOfKey (nestedKind prog w))) (hj : ∀ h, NestedIs h j u) (hne : ∀ x ∈ xs, x.1 ≠ j) (hu : A.units + 8 < cLine) (tk : Nat) :
    RefsFar prog w A { s with toks := tk } u es := fun e hme => by
  obtain ⟨_, _, _, _, _, _, _, his, _⟩ := hm
  have : e ∈ xs.map (entryOfKey (nestedKind prog w)) := he ▸ Array.mem_toList_iff.mpr hme
  obtain ⟨x, hx, rfl⟩ := List.mem_map.mp this
  have hk := his x hx
  refine ⟨x.2.1, rfl, fun E Q q => (nestedKind prog w).quiet (s := { s with toks := tk }) hk q, fun E Q q => ?_⟩
  have eb : NestedKey.beq x.1 j = false := by
    rw [← NestedKey.decide_eq]
    exact decide_eq_false (hne x hx)
  have := eqAt_key x.1 j A { s with toks := tk } (.ref x.2.1) u hk.1 (hj _) (by have := hk.2; have := Nat.min_le_left x.1.depth j.depth; omega)
  rw [eb] at this
  exact this prog w E Q q
theorem raw_of {d : Addr} {xs : List (NK × Addr × Value)} (hm : s.heap.DictOfH (nestedKind prog w) d xs) : ∃ es ep, s.heap.DictRaw d es ep ∧ es.toList = xs.map (entryOfKey (nestedKind prog w)) := by
  obtain ⟨o, es, ep, ho, hx, hd, he, _⟩ := hm
  exact ⟨es, ep, ⟨o, ho, hx, hd⟩, he⟩
theorem store_mix {d : Addr} {u v : Value} {j : NK} (hu : A.units + 8 < cLine) (lu : LeafV u) (hj : ∀ h, NestedIs h j u) : ∀ (vs : List (Value × Value)) (ps acc : List (NK × Addr × Value)) (s : Shared) (Q : PUnit → Shared → Prop),
    CarriesH (nestedKind prog w) s.heap vs ps → s.heap.DictOfH (nestedKind prog w) d acc → (∀ x ∈ acc ++ ps, x.1 ≠ j) → ((acc ++ ps).map (·.1)).Nodup → acc.length + ps.length ≤ sizeLine → (acc ++ ps ≠ [] ∨ isExactStrKey u = false) →
    (∀ (h' : Heap) tk (es : Array DictEntry) ep (hsh : Int), h'.DictRaw d (es.push ⟨hsh, u, v⟩) ep → es.toList = (acc ++ ps).map (entryOfKey (nestedKind prog w)) → Heap.SameBut d s.heap h' → Q PUnit.unit { s with heap := h', toks := tk }) →
    wpAny (model prog w) A (forIn (vs ++ [(u, v)]) PUnit.unit fun (x : Value × Value) (_ : PUnit) => (do dictSet d x.1 x.2; pure (ForInStep.yield PUnit.unit) : Sem (ForInStep PUnit))) Q E s
  | [], [], acc, s, Q, _, hm, hne, nd, hsz, hs, hQ => by
    rw [List.append_nil] at hne nd hs hQ
    rw [List.nil_append, List.forIn_cons]
    obtain ⟨es, ep, raw, he⟩ := raw_of hm
    have hz : es.size = acc.length := by rw [← Array.length_toList, he, List.length_map]
    refine wpAny_bind (wpAny_bind (set_far lu ?_ raw (by rw [hz]; exact Nat.le_trans (Nat.le_add_right _ _) hsz) (fun tk => refs_far hm he hj hne hu tk) fun h' tk hsh ep' raw' sb => wpAny_pure ?_))
    · rcases hs with hs | hs
      · exact .inl fun z => hs (List.length_eq_zero_iff.mp (by rw [← hz]; exact z))
      · exact .inr hs
    · dsimp only
      rw [List.forIn_nil]
      exact wpAny_pure (hQ _ _ _ _ _ raw' he sb)
  | (key, val) :: vs, (k, a, v') :: ps, acc, s, Q, hc, hm, hne, nd, hsz, hs, hQ => by
    obtain ⟨rfl, rfl, hkey, hc'⟩ := hc
    rw [List.length_cons] at hsz
    rw [List.cons_append, List.forIn_cons]
    have hnew : atKey acc k = none := by
      cases e : atKey acc k with
      | none => rfl
      | some q =>
        unfold atKey at e
        rw [Option.map_eq_some_iff] at e
        obtain ⟨x, ex, _⟩ := e
        have h1 := List.mem_of_find?_eq_some ex
        have h2 := List.find?_some ex
        simp only [decide_eq_true_eq] at h2
        rw [List.map_append, List.nodup_append] at nd
        exact absurd h2 (nd.2.2 x.1 (List.mem_map_of_mem h1) k (by simp))
    have est : storedH acc k a val = acc ++ [(k, a, val)] := storedH_new hnew a val
    have eap : acc ++ [(k, a, val)] ++ ps = acc ++ (k, a, val) :: ps := by simp
    refine wpAny_bind (wpAny_bind (wpAny_dictSet_heap (knd := nestedKind prog w) (hsz := by omega) hu hkey hm fun h₁ hm₁ hs₁ => wpAny_pure ?_))
    rw [est] at hm₁
    refine store_mix hu lu hj vs ps (acc ++ [(k, a, val)]) _ Q (hc'.keeps hm hs₁) hm₁ (by rw [eap]; exact hne) (by rw [eap]; exact nd) (by rw [List.length_append]; simp; omega) (.inl (by simp)) fun h' tk es ep hsh raw he sb => hQ h' tk es ep hsh raw (by rw [← eap]; exact he) (hs₁.trans sb)
  | [], _ :: _, _, _, _, hc, _, _, _, _, _, _ => hc.elim
  | _ :: _, [], _, _, _, hc, _, _, _, _, _, _ => hc.elim
theorem sub_for {pairs : List (Sem Value × Sem Value)} {Q : Addr → Shared → Prop} (hlen : pairs.length ≤ 15)
    (h : wpAny (model prog w) A (evalPairs pairs) (fun vs s₁ => wpAny (model prog w) A (forIn vs PUnit.unit fun (x : Value × Value) (_ : PUnit) => (do dictSet s.heap.objs.size x.1 x.2; pure (ForInStep.yield PUnit.unit) : Sem (ForInStep PUnit))) (fun _ s2 => Q s.heap.objs.size s2) E s₁) E
      { s with heap := s.heap.push { cls := .type "dict", data := .dict #[] } }) :
    wpAny (model prog w) A (subDict pairs) Q E s := by
  unfold subDict
  refine wpAny_bind (wpAny_alloc ?_)
  refine wpAny_bind (wpAny_holding ?_)
  rw [if_pos hlen]
  refine wpAny_bind (wpAny_mono h (fun vs s₁ h₁ => ?_) fun _ _ e => e)
  refine wpAny_holding ?_
  exact wpAny_bind (wpAny_mono h₁ (fun _ _ q => wpAny_pure (wpAny_pure q)) fun _ _ e => e)
end
inductive DispTo (G : Gx) (H : Hp) (Y : Addr → Prop) (p : Addr) : List (V × V) → HO → Prop
  | tup (es : List DnE) (nd : (es.map DnE.k).Nodup) (hk : ∀ e ∈ es, e.k.depth ≤ 8 ∧ KeyAt H Y e.k (.ref e.q)) : DispTo G H Y p (es.map fun e => (.ref e.q, e.v)) (DnO G p es)
  | mix (es : List DnE) (j : NK) (y v : V) (nd : (es.map DnE.k).Nodup) (hk : ∀ e ∈ es, e.k.depth ≤ 8 ∧ KeyAt H Y e.k (.ref e.q)) (hj : (j = .none ∧ y = .non) ∨ (es ≠ [] ∧ ((∃ i, j = .num i ∧ y = .int i) ∨ ∃ x, j = .text x ∧ y = .str x)))
      (hne : ∀ e ∈ es, e.k ≠ j) : DispTo G H Y p ((es.map fun e => (.ref e.q, e.v)) ++ [(y, v)]) (MxO p ((es.map fun e => (.ref e.q, e.v)) ++ [(y, v)]))
  | flat (k : Key) (v : V) : DispTo G H Y p [(kV k, v)] (.dK [(k, v)])
def tDispX (G : Gx) (trs : List (TE × TE)) : TE := fun σ H Q => ∀ p, H p = none → tPairs trs σ (upd H p (.dK [])) fun ps H2 => ps.length ≤ 15 ∧ ∃ (Y : Addr → Prop) (u : HO), DispTo G H2 Y p ps u ∧ H2 p = some (.dK []) ∧ Q (.ref p) (upd H2 p u)
section
variable {X : Cx} {keys : List (Option Expr)} {values : List Expr} {pos : Pos} {trs : List (TE × TE)}
theorem carries_dn {pins : List (Addr × Obj)} {σ : L2.St} {H : Hp} {s : Shared} {Y : Addr → Prop} (I : Inv X pins σ H s) : ∀ {es : List DnE} {vs : List (Value × Value)}, VV (es.map fun e => (V.ref e.q, e.v)) vs → (∀ e ∈ es, e.k.depth ≤ 8 ∧ KeyAt H Y e.k (.ref e.q)) →
    ∃ us : List Value, Paired (fun (e : DnE) u => RelV e.v u) es us ∧ CarriesH (nestedKind X.prog X.w) s.heap vs (dnX es us)
  | [], vs, r, _ => by cases r; exact ⟨[], .nil, trivial⟩
  | e :: es, vs, r, h => by
    cases r with
    | @cons _ b _ bs h1 t =>
      obtain ⟨b1, b2⟩ := b
      obtain ⟨r1, r2⟩ := h1
      cases (show b1 = Value.ref e.q from r1)
      obtain ⟨us, p, c⟩ := carries_dn I t fun e' he' => h e' (List.mem_cons_of_mem _ he')
      obtain ⟨hd, ka⟩ := h e List.mem_cons_self
      exact ⟨b2 :: us, .cons r2 p, rfl, rfl, key_is I ka hd, c⟩
theorem VV.split {y : V × V} : ∀ {xs : List (V × V)} {vs : List (Value × Value)}, VV (xs ++ [y]) vs → ∃ ws u, vs = ws ++ [u] ∧ VV xs ws ∧ RelV y.1 u.1 ∧ RelV y.2 u.2
  | [], vs, r => by
    cases r with
    | @cons _ b _ bs h1 t => cases t; exact ⟨[], b, rfl, .nil, h1.1, h1.2⟩
  | x :: xs, vs, r => by
    cases r with
    | @cons _ b _ bs h1 t =>
      obtain ⟨ws, u, rfl, h2, h3⟩ := VV.split (y := y) (xs := xs) t
      exact ⟨b :: ws, u, rfl, .cons h1 h2, h3⟩
theorem vals_ofG {es : List DnE} {us : List Value} (p : Paired (fun (e : DnE) u => RelV e.v u) es us) {i : Nat} {e : DnE} (h : es[i]? = some e) : ∃ u, us[i]? = some u ∧ RelV e.v u := pr_get p h
theorem mx_ok {H' : Hp} {h' : Heap} {a : Addr} {ps : List (V × V)} {ar : Array DictEntry} {ep : Nat} (hl : ps.length ≤ sizeLine) (hs : (a == sysModules) = false) (raw : h'.DictRaw a ar ep) (hz : ar.size = ps.length)
    (hh : ∀ i (hi : i < ar.size), ∃ p, ps[i]? = some p ∧ RelV p.1 ar[i].key ∧ RelV p.2 ar[i].val) : ObjOk X.prog X.w H' h' a (MxO a ps) := by
  obtain ⟨o, ho, hx, hd⟩ := raw
  refine ⟨⟨hl, hs, o, ar, ep, ho, hx, hd, hz, hh⟩, ⟨o, ho⟩, fun h1 h2 p k => ?_⟩
  obtain ⟨p1, p2, o', ar', ep', p4, p5, p6, p7, p8⟩ := p
  exact ⟨p1, p2, o', ar', ep', k _ p4, p5, p6, p7, p8⟩
theorem pe_dispX (hU : X.A.units + 64 < cLine) (hp : PPs X pos keys values trs) (hk : keys.all (·.isSome) = true) (hlen : keys.length = values.length) (h0 : keys ≠ []) (h15 : keys.length ≤ 15) : PE X (.Dict keys values pos) (tDispX X.gx trs) := by
  refine ⟨fun pins s σ H Q I q => ?_⟩
  have hn := I.hok.fresh (Nat.le_refl s.heap.objs.size)
  have I1 := I.laid (a := s.heap.objs.size) (o := .dK []) (h' := s.heap.push { cls := .type "dict", data := .dict #[] }) (t' := s.toks) (fun _ _ q => Heap.get?_push_of_some _ q) (Nat.le_refl _) (dk_empty s.heap I.big)
  have pl := pairTrees_length keys values X.env pos hk hlen
  have hne : pairTrees keys values X.env pos ≠ [] := fun z => h0 (by rw [z] at pl; exact List.length_eq_zero_iff.mp pl.symm)
  rw [arm_eval_Dict, zip_pairTrees keys values X.env pos hk hlen, dictDisplay_pairs (pairTrees keys values X.env pos) hne (by rw [pl]; omega)]
  refine wpAny_bind (wpAny_standAt (wpAny_bind (sub_for (Q := fun d s' => wpAny (model X.prog X.w) X.A (pure (Value.ref d)) (EP X pins σ Q) X.xe s') (by rw [pl]; exact h15) ?_)))
  refine thn (hp.run pins _ σ _ _ I1 (q _ hn)) fun ws s2 ⟨ps, H2, I2, rel, l15, Y, u, dt, hp2, qq⟩ => ?_
  have hsm : (s.heap.objs.size == sysModules) = false := beq_eq_false_iff_ne.mpr (Ne.symm (Nat.ne_of_lt I.big))
  have dd0 : s2.heap.DictOfH (nestedKind X.prog X.w) s.heap.objs.size [] := by
    obtain ⟨es, us, e1, e2, _, pr, _, _, dd⟩ := dict_H (X := X) (Y := Y) (R := fun o => H2 s.heap.objs.size = some o) (ks := []) (vs := []) I2 (fun u z => I2.hok _ _ z) (.inl ⟨[], hp2, rfl, rfl⟩) rfl
    cases es with
    | nil => cases pr; exact dd
    | cons _ _ => cases e1
  have hu8 : X.A.units + 8 < cLine := by omega
  cases dt with
  | tup es nd hk =>
    obtain ⟨us, pr, ca⟩ := carries_dn I2 rel hk
    have nd' : ((dnX es us).map (·.1)).Nodup := by rw [dnX_keys pr]; exact nd
    have el : es.length ≤ 15 := by rw [List.length_map] at l15; exact l15
    refine wpAny_storeAllH (knd := nestedKind X.prog X.w) hu8 ws (dnX es us) [] s2 _ ca dd0 (by rw [List.length_nil, dnX_len pr, sizeLine_eq]; omega) fun h' tk dd hs => wpAny_pure ⟨.ref _, _, ?_, rfl, qq⟩
    rw [storedAllH_nil_of_nodup _ nd'] at dd
    have he : ∃ q, h'.get? s.heap.objs.size = some q := let ⟨q, _, _, hq, _⟩ := dd; ⟨q, hq⟩
    exact d_write I2 (by rw [hp2]; exact True.intro) hs he (dn_ok (X := X) (us := us) (by rw [sizeLine_eq]; omega) hsm pr dd)
  | flat k v =>
    cases rel with
    | @cons _ b _ bs h1 t =>
      cases t
      obtain ⟨b1, b2⟩ := b
      obtain ⟨r1, r2⟩ := h1
      obtain ⟨_, _, vs0, kv0, dd⟩ := (show ObjOk X.prog X.w H2 s2.heap s.heap.objs.size (.dK []) from I2.hok _ _ hp2)
      cases kv0
      refine wpAny_storeAll (knd := mixKind X.prog X.w) [(b1, b2)] [(k, b2)] [] s2 _ ⟨kV_is r1, rfl, trivial⟩ dd (show 1 ≤ sizeLine by decide) fun h' dd' hs => wpAny_pure ⟨.ref _, _, ?_, rfl, qq⟩
      have em : merged [] [(k, b2)] = [(k, b2)] := rfl
      rw [em] at dd'
      have he : ∃ q, h'.get? s.heap.objs.size = some q := by
        obtain ⟨o, es, ep, ho, _⟩ := dd'
        exact ⟨o, ho⟩
      exact d_write I2 (by rw [hp2]; exact True.intro) hs he (dk_new (show 1 ≤ sizeLine by decide) hsm (.cons ⟨rfl, r2⟩ .nil) dd')
  | mix es j y v nd hk hj hne =>
    obtain ⟨vs, uv, rfl, r1, ry, rv⟩ := VV.split rel
    obtain ⟨us, pr, ca⟩ := carries_dn I2 r1 hk
    obtain ⟨u, val⟩ := uv
    have el : es.length ≤ 15 := by rw [List.length_append, List.length_map] at l15; omega
    have lu : LeafV u ∧ (∀ h, NestedIs h j u) ∧ (es ≠ [] ∨ isExactStrKey u = false) := by
      rcases hj with ⟨rfl, rfl⟩ | ⟨he, ⟨i, rfl, rfl⟩ | ⟨x, rfl, rfl⟩⟩
      · cases (show u = Value.none from ry)
        exact ⟨.none, fun h => .none, .inr rfl⟩
      · obtain ⟨t, e⟩ := (show ∃ t, u = Value.int i t from ry)
        subst e
        exact ⟨.int i t, fun h => .int i t, .inr rfl⟩
      · obtain ⟨t, e⟩ := (show ∃ t, u = Value.str x t from ry)
        subst e
        exact ⟨.str x t, fun h => .text x t, .inl he⟩
    obtain ⟨lu, hj', hs'⟩ := lu
    have hkk : ∀ x ∈ ([] : List (NK × Addr × Value)) ++ dnX es us, x.1 ≠ j := fun x hx => by
      obtain ⟨e, me, e1, _⟩ := dnX_mem (by simpa using hx)
      rw [e1]
      exact hne e me
    refine store_mix hu8 lu hj' vs (dnX es us) [] s2 _ ca dd0 hkk (by rw [List.nil_append, dnX_keys pr]; exact nd) (by rw [List.length_nil, dnX_len pr, sizeLine_eq]; omega) ?_ fun h' tk ar ep hsh raw he sb => wpAny_pure ⟨.ref _, _, ?_, rfl, qq⟩
    · rcases hs' with hs' | hs'
      · exact .inl fun z => hs' (by
          have := dnX_len pr
          rw [List.nil_append] at z
          rw [z] at this
          exact List.length_eq_zero_iff.mp this.symm)
      · exact .inr hs'
    · have he2 : ∃ q, h'.get? s.heap.objs.size = some q := let ⟨q, hq, _⟩ := raw; ⟨q, hq⟩
      rw [List.nil_append] at he
      have hsz : ar.size = es.length := by rw [← Array.length_toList, he, List.length_map, dnX_len pr]
      refine d_write I2 (by rw [hp2]; exact True.intro) sb he2 (mx_ok (by rw [List.length_append, List.length_map, sizeLine_eq]; simp; omega) hsm raw (by simp [hsz]) fun i hi => ?_)
      rw [Array.size_push] at hi
      by_cases hi2 : i < es.length
      · have ee : es[i]? = some es[i] := by simp [hi2]
        obtain ⟨u', eu, ru⟩ := vals_ofG pr ee
        have hd : (dnX es us)[i]? = some (es[i].k, es[i].q, u') := by
          show ((es.zip us).map _)[i]? = _
          rw [List.getElem?_map]
          have hz : (es.zip us)[i]? = some (es[i], u') := by
            rw [List.getElem?_zip_eq_some]
            exact ⟨ee, eu⟩
          rw [hz]; rfl
        have har : ar.toList[i]? = some (entryOfKey (nestedKind X.prog X.w) (es[i].k, es[i].q, u')) := by rw [he, List.getElem?_map, hd]; rfl
        have har2 : ar[i]? = some (entryOfKey (nestedKind X.prog X.w) (es[i].k, es[i].q, u')) := by rw [← Array.getElem?_toList]; exact har
        have hi3 : i < ar.size := by omega
        have e1 : (ar.push ⟨hsh, u, val⟩)[i] = ar[i] := Array.getElem_push_lt hi3
        have e2 : ar[i] = entryOfKey (nestedKind X.prog X.w) (es[i].k, es[i].q, u') := by
          have := Array.getElem?_eq_getElem hi3
          rw [har2] at this
          exact (Option.some.inj this).symm
        refine ⟨(.ref es[i].q, es[i].v), by rw [List.getElem?_append_left (by simpa using hi2), List.getElem?_map, ee]; rfl, ?_, ?_⟩
        · rw [e1, e2]; rfl
        · rw [e1, e2]; exact ru
      · have hi4 : i = ar.size := by omega
        subst hi4
        have e1 : (ar.push ⟨hsh, u, val⟩)[ar.size] = ⟨hsh, u, val⟩ := Array.getElem_push_eq
        refine ⟨(y, v), by rw [List.getElem?_append_right (by simp; omega)]; simp [hsz], ?_, ?_⟩
        · rw [e1]; exact ry
        · rw [e1]; exact rv
end
end Mi
set_option Elab.async false
set_option linter.all false
set_option maxRecDepth 100000
set_option maxHeartbeats 4000000
namespace Mi
open PySem PySem.Spec PyProof.Rows L2 He Wl
section
variable {X : Cx} {Wx : WX} {G : Gx} {F : Addr → Prop} {α : List Addr} {S : Sto} {H : Hp} {Y : Addr → Prop} {p : Addr}
def prsM : List (ME × ME) → Sl → Sto → Option (List (W × W) × Sto)
  | [], _, S => some ([], S)
  | (mk, mv) :: r, τ, S => match mk τ S with
    | .ok kw S1 => (match mv τ S1 with
      | .ok w S2 => (prsM r τ S2).map fun q => ((kw, w) :: q.1, q.2)
      | _ => none)
    | _ => none
def keyK : W → Option NK
  | .d .non => some .none
  | .d (.int i) => some (.num i)
  | .d (.str x) => some (.text x)
  | w => tkey w
def dispOk : List NK → Bool
  | [] => true
  | [_] => true
  | k :: ks => tupKd k && dispOk ks
def dispM (l : List (ME × ME)) : ME := fun τ S => match prsM l τ S with
  | some (ps, S2) => (match mapO keyK (ps.map (·.1)) with
    | some ks => if (dispOk ks && (decide ks.Nodup && decide (ps.length ≤ 15))) = true then .ok (.loc S2.length) (S2 ++ [.dct ks (ps.map (·.2))]) else .no
    | none => .no)
  | none => .no
abbrev PrR (G : Gx) (H : Hp) (Y : Addr → Prop) (α : List Addr) : List (W × W) → List (V × V) → Prop := Paired fun w p => RepW G H Y α w.1 p.1 ∧ RepW G H Y α w.2 p.2
inductive PrE (X : Cx) (Wx : WX) : List (TE × TE) → List (ME × ME) → Prop
  | nil : PrE X Wx [] []
  | cons {mk mv : ME} {ts : List (TE × TE)} {ms : List (ME × ME)} (r : PrE X Wx ts ms) : PrE X Wx ((tE X Wx mk, tE X Wx mv) :: ts) ((mk, mv) :: ms)
theorem PrR.stp {F : Addr → Prop} {α α' : List Addr} {S S' : Sto} {H H' : Hp} (s : Stp α S H α' S' H') : ∀ {ws : List (W × W)} {ps : List (V × V)}, PrR G H (XX F α S) α ws ps → PrR G H' (XX F α' S') α' ws ps
  | _, _, .nil => .nil
  | _, _, .cons h t => .cons ⟨h.1.stp s, h.2.stp s⟩ (PrR.stp s t)
theorem pairs_run {F : Addr → Prop} {τ : Sl} {σ : L2.St} : ∀ {ts : List (TE × TE)} {ms : List (ME × ME)} {α : List Addr} {S : Sto} {H : Hp} {ws : List (W × W)} {S2 : Sto} {Q : List (V × V) → Hp → Prop}, PrE X Wx ts ms → Rel X.gx F α S H → SlotsR X.gx H (XX F α S) α τ σ → prsM ms τ S = some (ws, S2) →
    (∀ α2 H2 ps, Rel X.gx F α2 S2 H2 → Stp α S H α2 S2 H2 → PrR X.gx H2 (XX F α2 S2) α2 ws ps → Q ps H2) → tPairs ts σ H Q
  | _, _, α, S, H, ws, S2, Q, .nil, r, sl, e, k => by
    cases e
    exact k α H [] r Stp.refl .nil
  | _, _, α, S, H, ws, S2, Q, @PrE.cons _ _ mk mv ts ms pr, r, sl, e, k => by
    unfold prsM at e
    show tE X Wx mk σ H fun x H1 => tE X Wx mv σ H1 fun y H2 => tPairs ts σ H2 fun ps H3 => Q ((x, y) :: ps) H3
    refine ⟨F, α, S, τ, r, sl, ?_⟩
    cases em : mk τ S with
    | no => rw [em] at e; cases e
    | ex c fs xs S' => rw [em] at e; cases e
    | ok kw S1 =>
      rw [em] at e
      dsimp only at e
      intro α1 H1 kv r1 s1 rk
      refine ⟨F, α1, S1, τ, r1, sl.stp s1, ?_⟩
      cases ev : mv τ S1 with
      | no => rw [ev] at e; cases e
      | ex c fs xs S' => rw [ev] at e; cases e
      | ok w S3 =>
        rw [ev] at e
        dsimp only at e
        intro α3 H3 vv r3 s3 rv
        rw [Option.map_eq_some_iff] at e
        obtain ⟨⟨ws', S4⟩, e, ee⟩ := e
        cases ee
        refine pairs_run pr r3 ((sl.stp s1).stp s3) e fun α4 H4 ps r4 s4 rp => ?_
        exact k α4 H4 ((kv, vv) :: ps) r4 ((s1.trans s3).trans s4) (.cons ⟨(RepW.stp s3 rk).stp s4, RepW.stp s4 rv⟩ rp)
def LeafR (j : NK) (y : V) : Prop := (j = .none ∧ y = .non) ∨ (∃ i, j = .num i ∧ y = .int i) ∨ ∃ x, j = .text x ∧ y = .str x
theorem keyK_at {w : W} {v : V} {j : NK} (h : RepW G H Y α w v) (e : keyK w = some j) : LeafR j v ∨ ∃ q, v = .ref q ∧ (∃ l, j = .tup l) ∧ j.depth ≤ 8 ∧ KeyAt H Y j (.ref q) := by
  unfold keyK at e
  split at e
  · cases e; unfold RepW Rep at h; exact .inl (.inl ⟨rfl, h⟩)
  · cases e; unfold RepW Rep at h; exact .inl (.inr (.inl ⟨_, rfl, h⟩))
  · cases e; unfold RepW Rep at h; exact .inl (.inr (.inr ⟨_, rfl, h⟩))
  · exact .inr (tkey_at h e)
theorem disp_split : ∀ {ws : List (W × W)} {ps : List (V × V)} {ks : List NK}, PrR G H Y α ws ps → mapO keyK (ws.map (·.1)) = some ks → dispOk ks = true →
    ∃ es : List DnE, (∀ e ∈ es, (∃ l, e.k = .tup l) ∧ e.k.depth ≤ 8 ∧ KeyAt H Y e.k (.ref e.q)) ∧ ((ps = es.map (fun e => (.ref e.q, e.v)) ∧ ks = es.map DnE.k) ∨ ∃ j y v, LeafR j y ∧ ps = es.map (fun e => (.ref e.q, e.v)) ++ [(y, v)] ∧ ks = es.map DnE.k ++ [j])
  | _, _, ks, .nil, e, _ => by
    cases e
    exact ⟨[], (fun _ z => nomatch z), .inl ⟨rfl, rfl⟩⟩
  | _, _, ks, @Paired.cons _ _ _ w p ws ps h t, e, ok => by
    rw [List.map_cons, mapO_cons, Option.bind_eq_some_iff] at e
    obtain ⟨j, e1, e⟩ := e
    rw [Option.bind_eq_some_iff] at e
    obtain ⟨js, e2, e⟩ := e
    cases e
    obtain ⟨p1, p2⟩ := p
    rcases keyK_at h.1 e1 with hl | ⟨q, eq, hl, hd, ka⟩
    · -- a leaf stands last
      cases t with
      | nil =>
        cases e2
        exact ⟨[], (fun _ z => nomatch z), .inr ⟨j, p1, p2, hl, rfl, rfl⟩⟩
      | @cons w' p' ws' ps' h' t' =>
        rw [List.map_cons, mapO_cons, Option.bind_eq_some_iff] at e2
        obtain ⟨j', _, e2⟩ := e2
        rw [Option.bind_eq_some_iff] at e2
        obtain ⟨js', _, e2⟩ := e2
        cases e2
        have : tupKd j = true := by
          unfold dispOk at ok
          exact (Bool.and_eq_true_iff.mp ok).1
        rcases hl with ⟨rfl, _⟩ | ⟨i, rfl, _⟩ | ⟨x, rfl, _⟩ <;> cases this
    · dsimp only at eq
      subst eq
      have ok' : dispOk js = true := by
        cases js with
        | nil => rfl
        | cons a l => unfold dispOk at ok; exact (Bool.and_eq_true_iff.mp ok).2
      obtain ⟨es, he, hc⟩ := disp_split t e2 ok'
      refine ⟨⟨j, q, p2⟩ :: es, fun e' he' => ?_, ?_⟩
      · rcases List.mem_cons.mp he' with rfl | he'
        · exact ⟨hl, hd, ka⟩
        · exact he e' he'
      · rcases hc with ⟨rfl, rfl⟩ | ⟨j', y, v, hl', rfl, rfl⟩
        · exact .inl ⟨rfl, rfl⟩
        · exact .inr ⟨j', y, v, hl', rfl, rfl⟩
theorem keys_app {H : Hp} {Y : Addr → Prop} : ∀ {ks : List NK} {vs : List V} {j : NK} {y : V}, KeysAt H Y ks vs → KeyAt H Y j y → KeysAt H Y (ks ++ [j]) (vs ++ [y])
  | [], vs, j, y, h, hj => by
    unfold KeysAt at h
    subst h
    show KeysAt H Y [j] [y]
    unfold KeysAt KeysAt
    exact ⟨y, [], rfl, hj, rfl⟩
  | k :: ks, vs, j, y, h, hj => by
    unfold KeysAt at h
    obtain ⟨v, r, rfl, h1, h2⟩ := h
    show KeysAt H Y (k :: (ks ++ [j])) (v :: (r ++ [y]))
    unfold KeysAt
    exact ⟨v, r ++ [y], rfl, h1, keys_app h2 hj⟩
theorem keys_dn {H : Hp} {Y : Addr → Prop} : ∀ {es : List DnE}, (∀ e ∈ es, KeyAt H Y e.k (.ref e.q)) → KeysAt H Y (es.map DnE.k) (es.map fun e => V.ref e.q)
  | [], _ => by unfold KeysAt; rfl
  | e :: es, h => by
    show KeysAt H Y (e.k :: es.map DnE.k) (V.ref e.q :: es.map fun e => V.ref e.q)
    unfold KeysAt
    exact ⟨_, _, rfl, h e List.mem_cons_self, keys_dn fun e' he' => h e' (List.mem_cons_of_mem _ he')⟩
theorem leaf_key {H : Hp} {Y : Addr → Prop} {j : NK} {y : V} (h : LeafR j y) : KeyAt H Y j y := by
  rcases h with ⟨rfl, rfl⟩ | ⟨i, rfl, rfl⟩ | ⟨x, rfl, rfl⟩ <;> (unfold KeyAt; rfl)
theorem vals_rep {H' : Hp} {Y' : Addr → Prop} {α' : List Addr} (st : Stay Y Y' H H') (pre : α <+: α') : ∀ {ws : List (W × W)} {ps : List (V × V)}, PrR G H Y α ws ps → RepWs G H' Y' α' (ws.map (·.2)) (ps.map (·.2))
  | _, _, .nil => by show RepWs _ _ _ _ [] []; unfold RepWs; rfl
  | _, _, .cons h t => RepWs.mkC (h.2.stay st pre) (vals_rep st pre t)
theorem disp_at {ws : List (W × W)} {ps : List (V × V)} {ks : List NK} (hp : PrR G H Y α ws ps) (e : mapO keyK (ws.map (·.1)) = some ks) (ok : dispOk ks = true) (nd : ks.Nodup) :
    ∃ u, DispTo G H Y p ps u ∧ ∀ (H' : Hp) (Y' : Addr → Prop), Stay Y Y' H H' → H' p = some u → DictAt G H' Y' p (fun o => H' p = some o) ks (ps.map (·.2)) := by
  obtain ⟨es, he, hc⟩ := disp_split hp e ok
  rcases hc with ⟨rfl, rfl⟩ | ⟨j, y, v, hl, rfl, rfl⟩
  · refine ⟨_, .tup es nd fun e' he' => ⟨(he e' he').2.1, (he e' he').2.2⟩, fun H' Y' st eu => .inr (.inl ⟨es, eu, rfl, by rw [List.map_map]; rfl, fun e' he' => ⟨(he e' he').1, (he e' he').2.1, (he e' he').2.2.stay st⟩⟩)⟩
  · have mixed : ∀ (hj : (j = .none ∧ y = .non) ∨ (es ≠ [] ∧ ((∃ i, j = .num i ∧ y = .int i) ∨ ∃ x, j = .text x ∧ y = .str x))),
        ∃ u, DispTo G H Y p (es.map (fun e => (.ref e.q, e.v)) ++ [(y, v)]) u ∧ ∀ (H' : Hp) (Y' : Addr → Prop), Stay Y Y' H H' → H' p = some u → DictAt G H' Y' p (fun o => H' p = some o) (es.map DnE.k ++ [j]) ((es.map (fun e => (V.ref e.q, e.v)) ++ [(y, v)]).map (·.2)) := fun hj => by
      rw [List.nodup_append] at nd
      refine ⟨_, .mix es j y v nd.1 (fun e' he' => ⟨(he e' he').2.1, (he e' he').2.2⟩) hj fun e' he' => nd.2.2 e'.k (List.mem_map_of_mem he') j (by simp), fun H' Y' st eu => .inr (.inr ⟨_, eu, ?_, rfl, ?_⟩)⟩
      · rw [List.map_append, List.map_map]
        exact keys_app (keys_dn fun e' he' => (he e' he').2.2.stay st) (leaf_key hl)
      · have nt : tupKd j = false := by rcases hl with ⟨rfl, _⟩ | ⟨i, rfl, _⟩ | ⟨x, rfl, _⟩ <;> rfl
        have a1 : (es.map DnE.k ++ [j]).all tupKd = false := by rw [List.all_append]; simp [nt]
        have a2 : (es.map DnE.k ++ [j]).all flatKd = false := by
          rcases hj with ⟨rfl, _⟩ | ⟨ne, _⟩
          · rw [List.all_append]; simp [flatKd]
          · cases es with
            | nil => exact absurd rfl ne
            | cons e0 r =>
              obtain ⟨⟨l, el⟩, _⟩ := he e0 List.mem_cons_self
              show (flatKd e0.k && _) = false
              rw [el]; rfl
        unfold mixK
        rw [a1, a2]; rfl
    by_cases hes : es = []
    · subst hes
      rcases hl with hl | ⟨i, rfl, rfl⟩ | ⟨x, rfl, rfl⟩
      · exact mixed (.inl hl)
      · exact ⟨_, .flat (.inl i) v, fun H' Y' st eu => .inl ⟨[(.inl i, v)], eu, rfl, rfl⟩⟩
      · exact ⟨_, .flat (.inr x) v, fun H' Y' st eu => .inl ⟨[(.inr x, v)], eu, rfl, rfl⟩⟩
    · refine mixed ?_
      rcases hl with hl | hl
      · exact .inl hl
      · exact .inr ⟨hes, hl⟩
theorem me_dispX {keys : List (Option Expr)} {values : List Expr} {pos : Pos} {ts : List (TE × TE)} {ms : List (ME × ME)} (hU : X.A.units + 64 < cLine) (pr : PrE X Wx ts ms) (hp : PPs X pos keys values ts) (hk : keys.all (·.isSome) = true := by rfl) (hlen : keys.length = values.length := by rfl) (h0 : keys ≠ [] := by exact List.cons_ne_nil _ _) (h15 : keys.length ≤ 15 := by decide) :
    EE X Wx (.Dict keys values pos) (dispM ms) := PE.imp (pe_dispX hU hp hk hlen h0 h15) fun σ H Q h p np => by
  obtain ⟨F, α, S, τ, r, sl, f⟩ := h
  have nF : ¬ F p := fun z => by obtain ⟨o, e⟩ := r.fd p z; rw [np] at e; cases e
  have r1 : Rel X.gx (fun a => F a ∨ a = p) α S (upd H p (.dK [])) := rel_new_out r np
  have sl1 : SlotsR X.gx (upd H p (.dK [])) (XX (fun a => F a ∨ a = p) α S) α τ σ := ⟨sl.len, fun i w e => by
    obtain ⟨v, e1, rv⟩ := sl.at_ i w e
    refine ⟨v, e1, rv.stay ⟨fun a u e _ => same_new np a u e, fun a u e z => ?_⟩ ⟨[], by simp⟩⟩
    rcases z with (z | z) | z
    · exact .inl z
    · subst z; rw [np] at e; cases e
    · exact .inr z⟩
  unfold dispM at f
  split at f
  rotate_left
  · exact f.elim
  rename_i ps S2 em
  split at f
  rotate_left
  · exact f.elim
  rename_i ks ek
  split at f
  rotate_left
  · exact f.elim
  rename_i hc
  rw [Bool.and_eq_true, Bool.and_eq_true, decide_eq_true_eq, decide_eq_true_eq] at hc
  obtain ⟨ok, nd, l15⟩ := hc
  refine pairs_run pr r1 sl1 em fun α2 H2 kvs r2 s2 rp => ?_
  obtain ⟨u, dt, hdt⟩ := disp_at (p := p) rp ek ok nd
  have e0 : H2 p = some (.dK []) := s2.keep _ _ upd_same fun ⟨n, o, e, _⟩ => r1.fr p (.inr rfl) (List.mem_of_getElem? e)
  refine ⟨by rw [← Paired.length rp]; exact l15, _, u, dt, e0, ?_⟩
  obtain ⟨r3, st⟩ := Rel.out (o := u) r2 (.inr rfl)
  have hl := r3.len
  have ra := own_out (o := .dct ks (ps.map (·.2))) r3 nF fun Y l => by
    have stY : Stay (XX (fun a => F a ∨ a = p) α2 S2) Y H2 (upd H2 p u) := ⟨fun a o e n => st.keep a o e n, fun a o e z => l a z⟩
    exact ⟨kvs.map (·.2), hdt _ _ stY upd_same, vals_rep stY ⟨[p], rfl⟩ rp⟩
  refine f _ _ _ ra ⟨s2.pre.trans ⟨[p], rfl⟩, fun a v e n => ?_, fun a v e z => ?_⟩ (by unfold rW RepW; exact ⟨p, by rw [← hl]; simp, rfl⟩)
  · have np' : a ≠ p := fun z => by rw [z, np] at e; cases e
    rw [upd_ne np']
    exact s2.keep _ _ (same_new np a v e) n
  · obtain ⟨i, o, e1, e2, e3⟩ := z
    by_cases hi : i < α2.length
    · rw [List.getElem?_append_left hi] at e1
      rw [List.getElem?_append_left (by omega)] at e2
      exact s2.less a v (same_new np a v e) ⟨i, o, e1, e2, e3⟩
    · rw [List.getElem?_append_right (by omega)] at e1
      have : a = p := by simpa using List.mem_of_getElem? e1
      subst this
      rw [np] at e; cases e
end
end Mi
set_option Elab.async false
set_option linter.all false
set_option maxRecDepth 100000
set_option maxHeartbeats 4000000
namespace Mi
open PySem PySem.Spec PyProof.Rows L2 He Wl
section
variable {X : Cx} {Wx : WX} {e : Expr} {es : List Expr} {kws : List Keyword} {ks : List Str} {pos p : Pos} {mr mrk : MA} {k n : Nat} {f : Addr} {sp : Sp} {kk : MF} {x : Str}
end
end Mi
set_option Elab.async false
set_option linter.all false
set_option maxRecDepth 100000
set_option maxHeartbeats 4000000
namespace Mi
open PySem PySem.Spec PyProof.Rows L2 He Wl
section
variable {G : Gx} {H : Hp} {F : Addr → Prop} {α : List Addr} {S : Sto}
end
section
variable {X : Cx} {Wx : WX} {e tg : Expr} {m : ME} {pos apos cpos : Pos} {td : TE}
end
end Mi
set_option Elab.async false
set_option linter.all false
set_option maxRecDepth 100000
set_option maxHeartbeats 4000000
namespace Mi
open PySem PySem.Spec PyProof.Rows L2 He Wl
theorem kf_nf {K : PySem.W.Frag} {cs : List Str} (Fc : KF K cs) {c : Str} (hc : okT cs (.c c) = true) {t : Tg} (ok : okT cs t = true) : PySem.W.notFirst K (ga K c) (t.v K) = true := by
  unfold PySem.W.notFirst
  rw [Bool.or_eq_true]
  have e := isT_kit Fc ok hc
  by_cases q : (t.v K == Value.ref (ga K c)) = true
  · exact .inl q
  · refine .inr ?_
    unfold PySem.W.kitOne at e
    rw [show (Tg.c c).v K = Value.ref (ga K c) from rfl, if_neg q] at e
    unfold PySem.W.kitCls at e
    dsimp only at e
    split at e
    · rw [e]
      cases t with
      | b n => rfl
      | c y =>
        show ((some (y == c) : Option Bool) == some false) = true
        have : y ≠ c := fun z => q (by subst z; exact beq_self_eq_true _)
        simp [this]
    · cases e
section
variable {X : Cx} {n : Nat}
theorem eqG_ownI {C f : Addr} {sp : Sp} (D : Eqv) (hs : PySem.W.findIn X.K (.ref C) "__eq__" = some (some (.ref f))) (hf : PySem.W.isFn X.K (.ref f) = true) (F : FnR X.prog X.w X.K X.mg X.base (L2.CX X.prog X.w) n f sp)
    (hD : ∀ x y H, D x y H → ∃ a b dx dy fs gs, x = .ref a ∧ y = .ref b ∧ H a = some (.ins C dx fs) ∧ H b = some (.ins C dy gs) ∧ PySem.W.notFirst X.K C (.ref C) = true ∧ sp [x, y] H (fun v H' => v = .bl true ∧ Ext H H') E0) : EqG X n D := by
  intro A pins s σ H x y u v sb I rx ry d
  obtain ⟨a, b, dx, dy, fs, gs, rfl, rfl, ha, hb, hn, hsp⟩ := hD _ _ _ d
  cases (show u = Value.ref a from rx)
  cases (show v = Value.ref b from ry)
  have rc : wpAny (model X.prog X.w) A (richCompare .Eq (.ref a) (.ref b)) (fun r s' => r = .bool true ∧ ∃ H', Inv X pins σ H' s' ∧ Ext H H') X.xe s := by
    obtain ⟨mA, oa, _⟩ := ins_get I.hok ha
    obtain ⟨mB, ob, _⟩ := ins_get I.hok hb
    obtain ⟨od, J, _⟩ := oa.look
    obtain ⟨od', J', _⟩ := ob.look
    obtain ⟨m, hF⟩ := I.fr
    refine PySem.W.cmp_K (op := .Eq) (tb := .ref C) sb.room.units0 hF I.ok.mod.kin J J'.type hn hs hf ?_
    have e0 : Env0 X.prog X.w X.K X.mg X.base A X.stack s H := by
      have e := I.env0
      exact ⟨by rw [sb.fr]; exact e.frames, e.mod, e.bs, e.bsz, e.funs, e.frf, e.hok, e.bare⟩
    have r2 : Vals [V.ref a, V.ref b] [Value.ref a, Value.ref b] := .cons rfl (.cons rfl .nil)
    refine wpAny_call (codeAny_mono (F A X.stack s H [.ref a, .ref b] [.ref a, .ref b] _ E0 sb.room e0 r2 hsp) fun r s' hq => ?_)
    cases r with
    | error e => exact (cx_never hq).elim
    | ok fl =>
      cases fl with
      | ret w =>
        obtain ⟨z, H', I', rz, ez, ex⟩ := I.after hq
        subst ez
        cases rz
        exact ⟨rfl, H', I', ex⟩
      | next => exact False.elim hq
      | brk => exact False.elim hq
      | cont => exact False.elim hq
  by_cases hab : b = a
  · subst hab
    exact SeqAt.EqAt.same (A := A) (s := s) (.ref b) X.prog X.w X.xe _ ⟨rfl, H, I, Ext.rfl'⟩
  · unfold eqBool
    refine wpAny_holding ?_
    refine wpAny_ite_split (fun h => absurd (by have := eq_of_beq h; cases this; rfl) hab) (fun _ => ?_)
    refine wpAny_bind (wpAny_mono rc (fun r s' hv => ?_) fun _ _ x => x)
    obtain ⟨rfl, q⟩ := hv
    exact wpAny_truthy_bool ⟨rfl, q⟩
def yesB (m : MF) (a b : D) : Bool := match m [.d a, .d b] [] with
  | .ok (.d (.bl true)) _ => true
  | _ => false
def xoC (c : Str) (m : MF) (a b : D) : Bool := match a, b with
  | .ins c1 _ _, .ins c2 _ _ => c1 == c && (c2 == c && yesB m a b)
  | _, _ => false
def DIn (G : Gx) (c : Str) (m : MF) : Eqv := fun x y H => ∃ (Y : Addr → Prop) (a b : D), Rep G H Y a x ∧ Rep G H Y b y ∧ xoC c m a b = true
theorem mon_in {G : Gx} {c : Str} {m : MF} : Mon (DIn G c m) := fun x y H H' e ⟨Y, a, b, h1, h2, h3⟩ => by
  have st : Stay Y Y H H' := ⟨fun a o h _ => e a o h, fun a o _ z => z⟩
  exact ⟨Y, a, b, h1.stay st, h2.stay st, h3⟩
theorem eqG_in {cs : List Str} {c : Str} {m : MF} {f : Addr} {k : Nat} (Fc : KF X.K cs) (hc : c ∈ cs) (M : Meth X.K (ga X.K c) "__eq__" f) (F : FnR X.prog X.w X.K X.mg X.base (L2.CX X.prog X.w) k f (spM X.gx m)) : EqG X k (DIn X.gx c m) := by
  refine eqG_ownI (DIn X.gx c m) M.at_ M.fn F fun x y H ⟨Y, a, b, h1, h2, h3⟩ => ?_
  unfold xoC at h3
  split at h3
  · rename_i c1 fs xs c2 gs ys
    obtain ⟨e1, h3⟩ := ba h3
    obtain ⟨e2, h3⟩ := ba h3
    cases eq_of_beq e1
    cases eq_of_beq e2
    have l : ∀ a, XX (fun _ => False) [] [] a → Y a := fun a z => z.elim False.elim fun ⟨n, o, e, _⟩ => (nomatch e)
    have a1 := h1.less l
    have a2 := h2.less l
    unfold Rep at h1 h2
    obtain ⟨a, dx, vs, rfl, _, _, i1, _⟩ := h1
    obtain ⟨b, dy, us, rfl, _, _, i2, _⟩ := h2
    have okc : okT cs (.c c) = true := by simp [okT, hc]
    refine ⟨a, b, dx, dy, _, _, rfl, rfl, i1, i2, kf_nf Fc okc okc, ?_⟩
    refine ⟨fun _ => False, [], [], [.d (.ins c fs xs), .d (.ins c gs ys)], ⟨rfl, List.nodup_nil, fun _ z => z.elim, fun _ z => z.elim, fun _ _ e => (nomatch e), fun _ _ _ e => (nomatch e)⟩, RepWs.mk2 (rw_d a1) (rw_d a2), ?_⟩
    unfold yesB at h3
    split at h3
    · rename_i S' em
      rw [em]
      intro α' H' v _ s' h'
      have h2 : RepW X.gx H' (XX (fun _ => False) α' S') α' (.d (.bl true)) v := h'
      unfold RepW Rep at h2
      exact ⟨h2, fun a o e => s'.keep a o e fun ⟨n, o, e, _⟩ => (nomatch e)⟩
    · cases h3
  · cases h3
end
def sX (xo : D → D → Bool) : Nat → D → D → Bool
  | 0, a, b => sE0 a b || xo a b
  | n + 1, a, b => (sE0 a b || xo a b) || (match a, b with
    | .tup xs, .tup ys => sXs n xs ys
    | .lst xs, .lst ys => sXs n xs ys
    | _, _ => false)
where sXs (n : Nat) : List D → List D → Bool
  | [], [] => true
  | x :: xs, y :: ys => sX xo n x y && sXs n xs ys
  | _, _ => false
def DX (G : Gx) (Do : Eqv) : Nat → Eqv
  | 0 => fun x y H => DSm G x y H ∨ Do x y H
  | n + 1 => fun x y H => (DSm G x y H ∨ Do x y H) ∨ (DTup G.K (DX G Do n) x y H ∨ DList (DX G Do n) x y H)
theorem mon_X {G : Gx} {Do : Eqv} (hm : Mon Do) : ∀ n, Mon (DX G Do n)
  | 0 => by unfold DX; exact mon_sm.or hm
  | n + 1 => by unfold DX; exact (mon_sm.or hm).or ((mon_tup (mon_X hm n)).or (mon_list (mon_X hm n)))
def XoOk (G : Gx) (xo : D → D → Bool) (Do : Eqv) : Prop := ∀ (H : Hp) (Y : Addr → Prop) (a b : D) (v u : V), xo a b = true → Rep G H Y a v → Rep G H Y b u → Do v u H
theorem xoOk_in {G : Gx} {c : Str} {m : MF} : XoOk G (xoC c m) (DIn G c m) := fun H Y a b v u e h1 h2 => ⟨Y, a, b, h1, h2, e⟩
theorem XoOk.or {G : Gx} {x1 x2 : D → D → Bool} {D1 D2 : Eqv} (h1 : XoOk G x1 D1) (h2 : XoOk G x2 D2) : XoOk G (fun a b => x1 a b || x2 a b) (fun x y H => D1 x y H ∨ D2 x y H) := fun H Y a b v u e r1 r2 => by
  rw [Bool.or_eq_true] at e
  rcases e with e | e
  · exact .inl (h1 H Y a b v u e r1 r2)
  · exact .inr (h2 H Y a b v u e r1 r2)
section
variable {G : Gx} {H : Hp} {Y : Addr → Prop} {xo : D → D → Bool} {Do : Eqv}
theorem sX_of (ho : XoOk G xo Do) : ∀ (n : Nat) {a b : D} {v u : V}, sX xo n a b = true → Rep G H Y a v → Rep G H Y b u → DX G Do n v u H
  | 0, a, b, v, u, e, h1, h2 => by
    unfold sX at e; unfold DX
    rw [Bool.or_eq_true] at e
    rcases e with e | e
    · exact .inl (sE0_of e h1 h2)
    · exact .inr (ho _ _ _ _ _ _ e h1 h2)
  | n + 1, a, b, v, u, e, h1, h2 => by
    have all : ∀ {xs ys : List D} {vs us : List V}, sX.sXs xo n xs ys = true → Reps G H Y xs vs → Reps G H Y ys us → Prs (DX G Do n) vs us H := by
      intro xs
      induction xs with
      | nil =>
        intro ys vs us e h1 h2
        cases ys with
        | nil => unfold Reps at h1 h2; subst h1 h2; exact Prs.nil
        | cons y ys => unfold sX.sXs at e; cases e
      | cons x xs ih =>
        intro ys vs us e h1 h2
        cases ys with
        | nil => unfold sX.sXs at e; cases e
        | cons y ys =>
          unfold sX.sXs at e
          obtain ⟨e1, e2⟩ := ba e
          unfold Reps at h1 h2
          obtain ⟨v, r, rfl, a1, a2⟩ := h1
          obtain ⟨u, t, rfl, b1, b2⟩ := h2
          exact Prs.cons (sX_of ho n e1 a1 b1) (ih e2 a2 b2)
    unfold sX at e
    rw [Bool.or_eq_true, Bool.or_eq_true] at e
    unfold DX
    rcases e with (e | e) | e
    · exact .inl (.inl (sE0_of e h1 h2))
    · exact .inl (.inr (ho _ _ _ _ _ _ e h1 h2))
    · split at e
      · unfold Rep at h1 h2
        obtain ⟨p, vs, rfl, _, hp, r1⟩ := h1
        obtain ⟨q, us, rfl, _, hq, r2⟩ := h2
        exact .inr (.inl ⟨p, q, vs, us, rfl, rfl, SqT.of hp, SqT.of hq, all e r1 r2⟩)
      · unfold Rep at h1 h2
        obtain ⟨p, vs, rfl, _, hp, r1⟩ := h1
        obtain ⟨q, us, rfl, _, hq, r2⟩ := h2
        exact .inr (.inr ⟨p, q, vs, us, rfl, rfl, hp, hq, all e r1 r2⟩)
      · cases e
theorem sXs_of (ho : XoOk G xo Do) (n : Nat) : ∀ {xs ys : List D} {vs us : List V}, sX.sXs xo n xs ys = true → Reps G H Y xs vs → Reps G H Y ys us → Prs (DX G Do n) vs us H
  | [], ys, vs, us, e, h1, h2 => by
    cases ys with
    | nil => unfold Reps at h1 h2; subst h1 h2; exact Prs.nil
    | cons y ys => unfold sX.sXs at e; cases e
  | x :: xs, ys, vs, us, e, h1, h2 => by
    cases ys with
    | nil => unfold sX.sXs at e; cases e
    | cons y ys =>
      unfold sX.sXs at e
      obtain ⟨e1, e2⟩ := ba e
      unfold Reps at h1 h2
      obtain ⟨v, r, rfl, a1, a2⟩ := h1
      obtain ⟨u, t, rfl, b1, b2⟩ := h2
      exact Prs.cons (sX_of ho n e1 a1 b1) (sXs_of ho n e2 a2 b2)
end
def eqXd (xo : D → D → Bool) (neg : Bool) : Sto → W → W → Option W := fun S x y => match toD 0 S x, toD 0 S y with
  | some (.tup xs), some (.tup ys) => if sX.sXs xo 3 xs ys = true then some (.d (.bl (!neg))) else none
  | some (.lst xs), some (.lst ys) => if sX.sXs xo 3 xs ys = true then some (.d (.bl (!neg))) else none
  | _, _ => none
def qNeX (xo : D → D → Bool) : Pr := pure2 (eqXd xo true)
def qEqX (xo : D → D → Bool) : Pr := pure2 (eqXd xo false)
section
variable {X : Cx} {cs : List Str} {m : MF} {f : Addr} {k kR : Nat} {xo : D → D → Bool} {Do : Eqv}
theorem eqG_X (Fc : KF X.K cs) (M : Meth X.K (ga X.K ratS) "__eq__" f) (F : FnR X.prog X.w X.K X.mg X.base (L2.CX X.prog X.w) kR f (spM X.gx m)) (hm : EqSelf m) (le : kR ≤ k) (mo : Mon Do) (hX : EqG X k Do) : ∀ n, EqG X (k + n) (DX X.gx Do n) := by
  have e0 : EqG X k (DSm X.gx) := (eqG_sm1.mono (Nat.zero_le _)).or ((eqG_sm2.mono (Nat.zero_le _)).or ((eqG_sm3 Fc M F hm).mono le))
  intro n
  induction n with
  | zero => exact e0.or hX
  | succ n ih =>
    have a0 : EqG X (k + (n + 1)) (DSm X.gx) := e0.mono (by omega)
    have a1 : EqG X (k + (n + 1)) Do := hX.mono (by omega)
    unfold DX
    refine (a0.or a1).or (.or ?_ ?_)
    · exact RcG.eqG (rcG_tup (mon_X mo n) ih) fun x y H d => by
        obtain ⟨a, b, _, _, h1, h2, _⟩ := d
        exact ⟨a, b, h1, h2⟩
    · exact RcG.eqG (rcG_list (mon_X mo n) ih) fun x y H d => by
        obtain ⟨a, b, _, _, h1, h2, _⟩ := d
        exact ⟨a, b, h1, h2⟩
theorem os_neX (Fc : KF X.K cs) (M : Meth X.K (ga X.K ratS) "__eq__" f) (F : FnR X.prog X.w X.K X.mg X.base (L2.CX X.prog X.w) kR f (spM X.gx m)) (hm : EqSelf m) (le : kR ≤ k) (mo : Mon Do) (hX : EqG X k Do) (ho : XoOk X.gx xo Do) (hr : Room (k + 4) X.A) : OpS X (compareOp .NotEq) (qNeX xo) := by
  have up := eqG_X Fc M F hm le mo hX 3
  intro pins s σ H x y v u Q I rx ry q
  obtain ⟨F', α, S, wx, wy, w, r, hx, hy, e, kq⟩ := rQ_two q
  unfold eqXd at e
  split at e
  · rename_i xs ys ex ey
    split at e
    · rename_i hs
      cases e
      have hX := toDf_rep r (Y := F') (fun _ z => .inl z) (fun n a e _ => r.noF e) 4 hx ex
      have hY := toDf_rep r (Y := F') (fun _ z => .inl z) (fun n a e _ => r.noF e) 4 hy ey
      have ht : DTup X.K (DX X.gx Do 3) x y H := by
        unfold Rep at hX hY
        obtain ⟨p, vs, rfl, _, hp, r1⟩ := hX
        obtain ⟨p', us, rfl, _, hq, r2⟩ := hY
        exact ⟨p, p', vs, us, rfl, rfl, SqT.of hp, SqT.of hq, sXs_of ho 3 hs r1 r2⟩
      exact op_neTG (n := k + 3) (mon_X mo 3) up (hr.mono (by omega)) pins s σ H x y v u Q I rx ry ⟨ht, fun H' sm => kq H' _ sm (rw_d (rep_bl _))⟩
    · cases e
  · rename_i xs ys ex ey
    split at e
    · rename_i hs
      cases e
      have hX := toDf_rep r (Y := F') (fun _ z => .inl z) (fun n a e _ => r.noF e) 4 hx ex
      have hY := toDf_rep r (Y := F') (fun _ z => .inl z) (fun n a e _ => r.noF e) 4 hy ey
      have ht : DList (DX X.gx Do 3) x y H := by
        unfold Rep at hX hY
        obtain ⟨p, vs, rfl, _, hp, r1⟩ := hX
        obtain ⟨p', us, rfl, _, hq, r2⟩ := hY
        exact ⟨p, p', vs, us, rfl, rfl, hp, hq, sXs_of ho 3 hs r1 r2⟩
      exact op_neG (n := k + 3) (mon_X mo 3) up (hr.mono (by omega)) pins s σ H x y v u Q I rx ry ⟨ht, fun H' sm => kq H' _ sm (rw_d (rep_bl _))⟩
    · cases e
  · cases e
theorem os_eqX (Fc : KF X.K cs) (M : Meth X.K (ga X.K ratS) "__eq__" f) (F : FnR X.prog X.w X.K X.mg X.base (L2.CX X.prog X.w) kR f (spM X.gx m)) (hm : EqSelf m) (le : kR ≤ k) (mo : Mon Do) (hX : EqG X k Do) (ho : XoOk X.gx xo Do) (hr : Room (k + 4) X.A) : OpS X (compareOp .Eq) (qEqX xo) := by
  have up := eqG_X Fc M F hm le mo hX 3
  intro pins s σ H x y v u Q I rx ry q
  obtain ⟨F', α, S, wx, wy, w, r, hx, hy, e, kq⟩ := rQ_two q
  unfold eqXd at e
  split at e
  · rename_i xs ys ex ey
    split at e
    · rename_i hs
      cases e
      have hX := toDf_rep r (Y := F') (fun _ z => .inl z) (fun n a e _ => r.noF e) 4 hx ex
      have hY := toDf_rep r (Y := F') (fun _ z => .inl z) (fun n a e _ => r.noF e) 4 hy ey
      have ht : DTup X.K (DX X.gx Do 3) x y H := by
        unfold Rep at hX hY
        obtain ⟨p, vs, rfl, _, hp, r1⟩ := hX
        obtain ⟨p', us, rfl, _, hq, r2⟩ := hY
        exact ⟨p, p', vs, us, rfl, rfl, SqT.of hp, SqT.of hq, sXs_of ho 3 hs r1 r2⟩
      exact op_eqTG (n := k + 3) (mon_X mo 3) up (hr.mono (by omega)) pins s σ H x y v u Q I rx ry ⟨ht, fun H' sm => kq H' _ sm (rw_d (rep_bl _))⟩
    · cases e
  · rename_i xs ys ex ey
    split at e
    · rename_i hs
      cases e
      have hX := toDf_rep r (Y := F') (fun _ z => .inl z) (fun n a e _ => r.noF e) 4 hx ex
      have hY := toDf_rep r (Y := F') (fun _ z => .inl z) (fun n a e _ => r.noF e) 4 hy ey
      have ht : DList (DX X.gx Do 3) x y H := by
        unfold Rep at hX hY
        obtain ⟨p, vs, rfl, _, hp, r1⟩ := hX
        obtain ⟨p', us, rfl, _, hq, r2⟩ := hY
        exact ⟨p, p', vs, us, rfl, rfl, hp, hq, sXs_of ho 3 hs r1 r2⟩
      exact op_eqLG (n := k + 3) (mon_X mo 3) up (hr.mono (by omega)) pins s σ H x y v u Q I rx ry ⟨ht, fun H' sm => kq H' _ sm (rw_d (rep_bl _))⟩
    · cases e
  · cases e
end
end Mi
set_option Elab.async false
set_option linter.all false
set_option maxRecDepth 100000
set_option maxHeartbeats 4000000
namespace Mi
open PySem PySem.Spec PyProof.Rows L2 He Wl
section
variable {X : Cx}
end
end Mi
set_option Elab.async false
set_option linter.all false
set_option maxRecDepth 100000
set_option maxHeartbeats 4000000
namespace Mi
open PySem PySem.Spec PyProof.Rows L2 He Wl
section
variable {X : Cx} {cs : List Str} {f : Addr} {k : Nat}
def gCx (c : Str) (cs : List Str) (S : Sto) : List W → Bool
  | [.d (.ins c1 _ _), y] => c1 == c && (match tgW S y with
    | some t => okT cs t
    | none => false)
  | _ => false
theorem os_eqC (Fc : KF X.K cs) {c : Str} (hc : okT cs (.c c) = true) {m : MF} (M : Meth X.K (ga X.K c) "__eq__" f) (F : FnR X.prog X.w X.K X.mg X.base (L2.CX X.prog X.w) k f (spM X.gx m)) (hr : Room k X.A) : OpS X (compareOp .Eq) (qOf (gCx c cs) m) := by
  intro pins s σ H x y v u Q I rx ry h
  obtain ⟨F', α, S, ws, r, hw, hg, q⟩ := qOf_sp (E := E0) h
  obtain ⟨w1, w2, rfl, h1, h2⟩ := hw.two
  unfold gCx at hg
  split at hg
  rotate_left
  · cases hg
  rename_i c1 fs xs w e
  cases e
  obtain ⟨e1, hh⟩ := ba hg
  clear hg
  cases eq_of_beq e1
  split at hh
  rotate_left
  · cases hh
  rename_i t et
  unfold RepW Rep at h1
  obtain ⟨a, dx, vs, rfl, _, _, ha, _⟩ := h1
  obtain ⟨P, Z, p, _⟩ := kit_w Fc I r h2 ry et hh
  cases (show v = Value.ref a from rx)
  obtain ⟨mA, oa, _⟩ := ins_get I.hok ha
  obtain ⟨od, J, _⟩ := oa.look
  obtain ⟨m, hF⟩ := I.fr
  show wpAny (model X.prog X.w) X.A (richCompare .Eq (.ref a) u) (EP X pins σ Q) X.xe s
  refine PySem.W.cmp_K (op := .Eq) (tb := t.v X.K) hr.units0 hF I.ok.mod.kin J (Z.ty _ _ I.kIn p) (kf_nf Fc hc hh) M.at_ M.fn ?_
  refine wpAny_mono (wpAny_call (run_fnR (us := [.ref a, u]) (vs := [.ref a, y]) F hr nvr I (.cons rfl (.cons ry .nil)) q)) (fun w s' z => ?_) fun _ _ x => x
  obtain ⟨z', H', I', rz, qz⟩ := z
  exact SlX.cmpback rz ⟨z', H', I', rz, qz⟩
end
end Mi
set_option Elab.async false
set_option linter.all false
set_option maxRecDepth 100000
set_option maxHeartbeats 4000000
namespace Mi
open PySem PySem.Spec PyProof.Rows PySem.Calls PyProof.V
section
variable {prog : Program} {w : World} {K : Type} [DecidableEq K] {knd : HeapKind prog w K} {A : Around} {E : Value → Shared → Prop} {s : Shared}
theorem samePairsI {nm : String} {a b : Addr} {xs ys : List (K × Addr × Value)} {Q : Bool → Shared → Prop} (P : Shared → Prop) {oa ob : Obj} {es es' : Array DictEntry} {ep ep' : Nat} (hu : knd.room A) (ha : (a == sysModules) = false) (hb : (b == sysModules) = false)
    (hda : oa.data = .dict es ep) (hdb : ob.data = .dict es' ep') (hea : es.toList = xs.map (entryOfKey knd)) (heb : es'.toList = ys.map (entryOfKey knd)) (hnb : (ys.map (·.1)).Nodup) (hk : xs.map (·.1) = ys.map (·.1))
    (hP : ∀ s', P s' → s'.heap.get? a = some oa ∧ s'.heap.get? b = some ob ∧ (∀ x ∈ xs, knd.is s'.heap x.1 x.2.1) ∧ ∀ y ∈ ys, knd.is s'.heap y.1 y.2.1)
    (hv : ∀ (i : Nat) (x y : K × Addr × Value) (s' : Shared), P s' → xs[i]? = some x → ys[i]? = some y → wpAny (model prog w) A (eqBool x.2.2 y.2.2) (fun r s'' => r = true ∧ P s'') E s') (h : ∀ s', P s' → Q true s') (hs : P s) :
    wpAny (model prog w) A (Builtin.Dict.samePairs nm a b) Q E s := by
  have hla : es.size = xs.length := size_of_entries hea
  have hlb : es'.size = ys.length := size_of_entries heb
  have hlen : xs.length = ys.length := by
    have := congrArg List.length hk
    simpa using this
  have hsz : es.size = es'.size := by omega
  unfold Builtin.Dict.samePairs Builtin.Dict.showsAll
  rw [if_neg (show ¬ (a == sysModules) = true by rw [ha]; exact Bool.false_ne_true), if_neg (show ¬ (b == sysModules) = true by rw [hb]; exact Bool.false_ne_true)]
  refine wpAny_bind (wpAny_pure (wpAny_bind (wpAny_pure ?_)))
  refine wpAny_bind (wpAny_dictEntries (hP _ hs).1 hda ?_)
  dsimp only
  refine wpAny_bind (wpAny_dictEntries (hP _ hs).2.1 hdb ?_)
  rw [if_neg (by rw [hsz]; simp)]
  refine wpAny_bind (wpAny_dictEpoch (hP _ hs).1 hda ?_)
  refine wpAny_bind ?_
  rw [Std.Legacy.Range.forIn_eq_forIn_range']
  simp only [Std.Legacy.Range.size, Nat.sub_zero, Nat.add_sub_cancel, Nat.div_one]
  refine wpAny_forIn_list _
    (fun rest q s' => P s' ∧ q = (none, ()) ∧ ∃ i, rest = List.range' i (es.size - i) ∧ i ≤ es.size)
    _ ?_ ?_ _ _ ⟨hs, rfl, 0, by simp, Nat.zero_le _⟩
  · rintro x rest q s' ⟨ps, rfl, i, hr, hi⟩
    have hlt : i < es.size := by
      rcases Nat.lt_or_ge i es.size with h | h
      · exact h
      · rw [Nat.sub_eq_zero_of_le h] at hr; simp at hr
    obtain ⟨rfl, hrest⟩ : x = i ∧ rest = List.range' (i + 1) (es.size - (i + 1)) := by
      have e : es.size - i = (es.size - (i + 1)) + 1 := by omega
      rw [e, List.range'_succ] at hr
      injection hr with h1 h2
      exact ⟨h1, h2⟩
    refine wpAny_bind (wpAny_dictEntries (hP _ ps).1 hda ?_)
    obtain ⟨⟨k, p, u⟩, hkv⟩ : ∃ y, xs[x]? = some y := ⟨xs[x]'(by omega), List.getElem?_eq_getElem _⟩
    obtain ⟨⟨k', p', u'⟩, hkv'⟩ : ∃ y, ys[x]? = some y := ⟨ys[x]'(by omega), List.getElem?_eq_getElem _⟩
    have hkk : k = k' := by
      have e1 : (xs.map (·.1))[x]? = some k := by rw [List.getElem?_map, hkv]; rfl
      have e2 : (ys.map (·.1))[x]? = some k' := by rw [List.getElem?_map, hkv']; rfl
      rw [hk] at e1
      exact Option.some.inj (e1.symm.trans e2)
    subst hkk
    have hex : es[x]? = some (entryOfKey knd (k, p, u)) := by rw [entry_at hea x, hkv]; rfl
    have hex' : es'[x]? = some (entryOfKey knd (k, p', u')) := by rw [entry_at heb x, hkv']; rfl
    rw [hex]
    show wpAny _ _ (holding [Value.ref p, u] _ >>= _) _ _ _
    refine wpAny_bind (wpAny_holding (wpAny_bind (wpAny_dictFind_heap hu ((hP _ ps).2.2.1 _ (List.mem_of_getElem? hkv)) (hP _ ps).2.1 hdb heb (hP _ ps).2.2.2 hnb (fun hno => absurd hkv' (hno x _)) (fun j q hj => ?_))))
    have ej : j = x := idxH_unique hnb hj hkv'
    subst ej
    refine wpAny_bind (wpAny_dictEntries (hP _ ps).2.1 hdb ?_)
    rw [hex']
    refine wpAny_holding (wpAny_mono (hv j _ _ _ ps hkv hkv') (fun r s2 h2 => ?_) fun _ _ x => x)
    obtain ⟨rfl, p2⟩ := h2
    show wpAny _ _ (if (!true) = true then _ else _) _ _ _
    rw [if_neg (by decide)]
    refine wpAny_bind (wpAny_dictEpoch (hP _ p2).1 hda ?_)
    rw [if_neg (by simp)]
    exact wpAny_pure ⟨p2, rfl, j + 1, hrest, hlt⟩
  · rintro q s' ⟨ps, rfl, i, hr, hi⟩
    exact wpAny_pure (h _ ps)
theorem rcI_dicts {a b : Addr} {xs ys : List (K × Addr × Value)} (P : Shared → Prop) {oa ob : Obj} {es es' : Array DictEntry} {ep ep' : Nat} (hu : knd.room A.in1) (hl : A.units < cLine) (ha : (a == sysModules) = false) (hb : (b == sysModules) = false)
    (ta : s.TypeIs (.ref a) "dict") (tb : s.TypeIs (.ref b) "dict")
    (hda : oa.data = .dict es ep) (hdb : ob.data = .dict es' ep') (hea : es.toList = xs.map (entryOfKey knd)) (heb : es'.toList = ys.map (entryOfKey knd)) (hnb : (ys.map (·.1)).Nodup) (hk : xs.map (·.1) = ys.map (·.1))
    (hP : ∀ s', P s' → s'.heap.get? a = some oa ∧ s'.heap.get? b = some ob ∧ (∀ x ∈ xs, knd.is s'.heap x.1 x.2.1) ∧ ∀ y ∈ ys, knd.is s'.heap y.1 y.2.1)
    {Q : Value → Shared → Prop} (hv : ∀ (i : Nat) (x y : K × Addr × Value) (s' : Shared), P s' → xs[i]? = some x → ys[i]? = some y → wpAny (model prog w) A.in1 (eqBool x.2.2 y.2.2) (fun r s'' => r = true ∧ P s'') E s') (h : ∀ s', P s' → Q (.bool true) s') (hs : P s) :
    wpAny (model prog w) A (richCompare .Eq (.ref a) (.ref b)) Q E s := by
  refine wpAny_richCompare_same_room (op := .Eq) ta tb PySem.F.slot_dict_eq (wpAny_call_entry PySem.F.slot_dict_eq ta PySem.F.entry_dict_eq ?_ (PySem.F.args_dict_eq_2 _ _)) hl
  show wpAny _ _ (Builtin.Dict.dictSlotArgs "__eq__" ⟨[.ref a, .ref b], []⟩ >>= _) _ _ s
  refine wpAny_bind ?_
  unfold Builtin.Dict.dictSlotArgs
  refine wpAny_bind (wpAny_notOrdered_dict ta ?_)
  show wpAny _ _ (pure (Value.ref a, Value.ref b)) _ _ s
  refine wpAny_pure ?_
  refine wpAny_bind (wpAny_isInstance (T := "dict") tb PySem.F.sub_dict_dict ?_)
  simp only [Bool.not_true, Bool.false_eq_true, if_false]
  refine wpAny_bind (wpAny_pure (wpAny_bind (wpAny_pure ?_)))
  refine wpAny_bind (samePairsI P hu ha hb hda hdb hea heb hnb hk hP hv (fun s' p => ?_) hs)
  refine wpAny_pure ⟨_, rfl, ?_, ?_⟩
  · exact fun x => nomatch x
  · exact h _ p
end
open L2 He Wl
def eqVs : List D → List D → Bool
  | [], [] => true
  | x :: xs, y :: ys => sE0 x y && eqVs xs ys
  | _, _ => false
def xoD (a b : D) : Bool := match a, b with
  | .dct ks xs, .dct js ys => decide (ks = js) && (ks.all isTupK && eqVs xs ys)
  | _, _ => false
def DDc (G : Gx) : Eqv := fun x y H => ∃ (Y : Addr → Prop) (a b : D), Rep G H Y a x ∧ Rep G H Y b y ∧ xoD a b = true
theorem mon_dc {G : Gx} : Mon (DDc G) := fun x y H H' e ⟨Y, a, b, h1, h2, r⟩ => by
  have st : Stay Y Y H H' := ⟨fun a o h _ => e a o h, fun a o _ z => z⟩
  exact ⟨Y, a, b, h1.stay st, h2.stay st, r⟩
theorem xoOk_dc {G : Gx} : XoOk G xoD (DDc G) := fun H Y a b v u e h1 h2 => ⟨Y, a, b, h1, h2, e⟩
theorem eqVs_at {G : Gx} {H : Hp} {Y : Addr → Prop} : ∀ {ds es : List D} {vs us : List V}, eqVs ds es = true → Reps G H Y ds vs → Reps G H Y es us → ∀ (i : Nat) (x y : V), vs[i]? = some x → us[i]? = some y → DSm G x y H
  | [], es, vs, us, e, h1, h2 => fun i x y ex ey => by
    unfold Reps at h1; subst h1
    cases ex
  | a :: ds, [], vs, us, e, h1, h2 => fun i x y ex ey => by unfold eqVs at e; cases e
  | a :: ds, b :: es, vs, us, e, h1, h2 => fun i x y ex ey => by
    unfold eqVs at e
    obtain ⟨p1, e⟩ := ba e
    unfold Reps at h1 h2
    obtain ⟨v, r, rfl, a1, a2⟩ := h1
    obtain ⟨u, t, rfl, b1, b2⟩ := h2
    cases i with
    | zero => cases ex; cases ey; exact sE0_of p1 a1 b1
    | succ i => exact eqVs_at e a2 b2 i x y ex ey
theorem dnX_get {es : List DnE} {us : List Value} (pr : Paired (fun (e : DnE) u => RelV e.v u) es us) {i : Nat} {x : NK × Addr × Value} (h : (dnX es us)[i]? = some x) : ∃ e : DnE, es[i]? = some e ∧ RelV e.v x.2.2 := by
  induction pr generalizing i with
  | nil => cases h
  | cons r t ih =>
    cases i with
    | zero => cases h; exact ⟨_, rfl, r⟩
    | succ i => exact ih h
section
variable {X : Cx}
theorem dict_Z {pins : List (Addr × Obj)} {σ : L2.St} {H : Hp} {s : Shared} (I : Inv X pins σ H s) {Y : Addr → Prop} {a : Addr} {ks : List NK} {vs : List V} (h : DictAt X.gx H Y a (fun u => ∃ o, H a = some (.frz o u)) ks vs) (ht : ks.all isTupK = true) :
    ∃ (oa : Obj) (ar : Array DictEntry) (ep : Nat) (es : List DnE) (us : List Value), es.map DnE.k = ks ∧ es.map DnE.v = vs ∧ Paired (fun (e : DnE) u => RelV e.v u) es us ∧ (a == sysModules) = false ∧ s.TypeIs (.ref a) "dict" ∧ oa.data = .dict ar ep ∧
      ar.toList = (dnX es us).map (entryOfKey (nestedKind X.prog X.w)) ∧ ((dnX es us).map (·.1)).Nodup ∧
      ∀ (H' : Hp) (s' : Shared), Inv X pins σ H' s' → Ext H H' → s'.heap.get? a = some oa ∧ ∀ x ∈ dnX es us, (nestedKind X.prog X.w).is s'.heap x.1 x.2.1 := by
  have fz : ∀ u, (∃ o, H a = some (.frz o u)) → ObjOk X.prog X.w H s.heap a u := fun u ⟨o, h⟩ => (show ObjOk X.prog X.w H s.heap a (.frz o u) from I.hok a _ h).2
  obtain ⟨es, us, e1, e2, hk, pr, hs, hl, dd⟩ := dict_H I fz h ht
  have ⟨o, ho⟩ : ∃ o u, H a = some (.frz o u) := by
    rcases h with ⟨_, ⟨o, h⟩, _⟩ | ⟨_, ⟨o, h⟩, _⟩ | ⟨_, ⟨o, h⟩, _⟩ <;> exact ⟨o, _, h⟩
  obtain ⟨u, ho⟩ := ho
  have ty := dd.typeIs
  obtain ⟨oa, ar, ep, hoa, _, hd, he, hi, hn⟩ := dd
  refine ⟨oa, ar, ep, es, us, e1, e2, pr, hs, ty, hd, he, hn, fun H' s' I' x' => ⟨?_, fun y hy => ?_⟩⟩
  · have g1 : s.heap.get? a = some o := (show ObjOk X.prog X.w H s.heap a (.frz o u) from I.hok a _ ho).1
    have g2 : s'.heap.get? a = some o := (show ObjOk X.prog X.w H' s'.heap a (.frz o u) from I'.hok a _ (x' _ _ ho)).1
    rw [g2, ← g1, hoa]
  · obtain ⟨e, me, f1, f2⟩ := dnX_mem hy
    rw [f1, f2]
    have st : Stay Y Y H H' := ⟨fun a o h _ => x' a o h, fun a o _ z => z⟩
    exact key_is I' ((hk e me).2.2.stay st) (hk e me).2.1
theorem rcG_dc {k : Nat} (e0 : EqG X k (DSm X.gx)) : RcG X (k + 1) (DDc X.gx) := by
  intro A pins s σ H x y u v sb I rx ry ⟨Y, d, e, h1, h2, q⟩
  unfold xoD at q
  split at q
  rotate_left
  · cases q
  rename_i ks xs js ys
  obtain ⟨q1, q⟩ := ba q
  obtain ⟨q2, q3⟩ := ba q
  have ek := of_decide_eq_true q1
  subst ek
  unfold Rep at h1 h2
  obtain ⟨a, vs, rfl, _, da, r1⟩ := h1
  obtain ⟨b, us, rfl, _, db, r2⟩ := h2
  cases (show u = Value.ref a from rx)
  cases (show v = Value.ref b from ry)
  obtain ⟨oa, ar, ep, es1, us1, e1, e2, pr1, hs1, ty1, hd1, he1, hn1, F1⟩ := dict_Z I da q2
  obtain ⟨ob, ar', ep', es2, us2, f1, f2, pr2, hs2, ty2, hd2, he2, hn2, F2⟩ := dict_Z I db q2
  have un := sb.room.units
  refine rcI_dicts (fun s' => ∃ H', Inv X pins σ H' s' ∧ Ext H H') (hu8 un) (by omega) hs1 hs2 ty1 ty2 hd1 hd2 he1 he2 hn2 (by rw [dnX_keys pr1, dnX_keys pr2, e1, f1]) (fun s' ⟨H', I', x'⟩ => ⟨(F1 H' s' I' x').1, (F2 H' s' I' x').1, (F1 H' s' I' x').2, (F2 H' s' I' x').2⟩)
    (fun i x y s' ⟨H', I', x'⟩ hx hy => ?_) (fun s' p => ⟨rfl, p⟩) ⟨H, I, Ext.rfl'⟩
  obtain ⟨a1, ea, ra⟩ := dnX_get pr1 hx
  obtain ⟨b1, eb, rb⟩ := dnX_get pr2 hy
  have ga : vs[i]? = some a1.v := by rw [← e2, List.getElem?_map, ea]; rfl
  have gb : us[i]? = some b1.v := by rw [← f2, List.getElem?_map, eb]; rfl
  have dm := eqVs_at q3 r1 r2 i _ _ ga gb
  exact wpAny_mono (e0 A.in1 pins s' σ H' _ _ _ _ sb.in1 I' ra rb (mon_sm _ _ _ _ x' dm)) (fun r s'' ⟨hr, H'', I'', x''⟩ => ⟨hr, H'', I'', x'.trans x''⟩) fun _ _ x => x
theorem eqG_dc {cs : List Str} {m : MF} {f : Addr} {k : Nat} (Fc : KF X.K cs) (M : Meth X.K (ga X.K ratS) "__eq__" f) (F : FnR X.prog X.w X.K X.mg X.base (L2.CX X.prog X.w) k f (spM X.gx m)) (hm : EqSelf m) : EqG X (k + 1) (DDc X.gx) :=
  RcG.eqG (rcG_dc ((eqG_sm1.mono (Nat.zero_le _)).or ((eqG_sm2.mono (Nat.zero_le _)).or (eqG_sm3 Fc M F hm)))) fun x y H ⟨Y, d, e, h1, h2, q⟩ => by
    unfold xoD at q
    split at q
    · unfold Rep at h1 h2
      obtain ⟨a, vs, rfl, _⟩ := h1
      obtain ⟨b, us, rfl, _⟩ := h2
      exact ⟨a, b, rfl, rfl⟩
    · cases q
end
end Mi
set_option Elab.async false
set_option linter.all false
set_option maxRecDepth 100000
set_option maxHeartbeats 4000000
namespace Mi
open PySem PySem.Spec PyProof.Rows L2 He Wl
def tPropR (C : Addr) (sp : Sp) (ta : TE) : TE := fun σ H Q => ta σ H fun x H1 => ∃ a dx fs, x = .ref a ∧ H1 a = some (.ins C dx fs) ∧ sp [.ref a] H1 Q E0
section
variable {X : Cx} {k : Nat} {C p g : Addr} {f : Str} {sp : Sp} {e : Expr} {pos : Pos} {ta : TE}
theorem getprop_R {pins : List (Addr × Obj)} {σ : L2.St} {H : Hp} {s : Shared} {Q : VK} {b : Bool} {E' : Value → Shared → Prop} {a dx : Addr} {fs : List (Str × V)} (I : Inv X pins σ H s) (ea : H a = some (.ins C dx fs)) (c : Cls X.K C) (hp : PropSl X.K C f p g)
    (F : FnR X.prog X.w X.K X.mg X.base (L2.CX X.prog X.w) k g sp) (hr : Room (k + 1) X.A) (h : sp [.ref a] H Q E0) :
    wpAny (model X.prog X.w) X.A (getAttr (.ref a) f b) (EP X pins σ Q) E' s := by
  obtain ⟨mA, O, _, _, _, _⟩ := ins_get I.hok ea
  obtain ⟨od, J, _⟩ := O.look
  obtain ⟨rest, hrec⟩ := hp.rc
  have I1 := I.tok (s.toks + 1)
  have hc : (PySem.W.clsIn X.K C).isSome = true := by
    obtain ⟨cd, hc, _⟩ := PySem.W.any_some c.hd
    rw [hc]
    rfl
  refine PySem.W.get_bind I.kIn J (PySem.W.plainGet_of (c.get f)).1 (PySem.W.findObj_data hc hp.at_ hp.get hp.tk) (PySem.W.plainGet_of (c.get f)).2 (wpAny_call (PySem.W.prop_get (s := { s with toks := s.toks + 1 }) I.kIn hrec ?_))
  refine codeAny_mono (F X.A.in1 X.stack { s with toks := s.toks + 1 } H [.ref a] [.ref a] Q E0 hr.in1 I1.env0.in1 (.cons rfl .nil) h) fun r s' hq => ?_
  cases r with
  | error er => exact (cx_never hq).elim
  | ok fl =>
    cases fl with
    | ret u =>
      obtain ⟨v, H', I3, rv, q3⟩ := I1.after hq
      show wpAny _ _ (handedOut u) _ _ _
      rw [PySem.W.handedOut_of (handed_of rv)]
      exact wpAny_pure ⟨v, H', I3, rv, q3⟩
    | next => exact False.elim hq
    | brk => exact False.elim hq
    | cont => exact False.elim hq
theorem pe_propR (he : PE X e ta) (c : Cls X.K C) (hp : PropSl X.K C f p g) (F : FnR X.prog X.w X.K X.mg X.base (L2.CX X.prog X.w) k g sp) (hr : Room (k + 1) X.A)
    (hab : attributeBase e f X.env (eval e X.env) = eval e X.env) : PE X (.Attribute e f pos) (tPropR C sp ta) := by
  refine ⟨fun pins s σ H Q I h => ?_⟩
  refine attr_of hab (thn (he.run pins s σ H _ I h) fun u s1 ⟨x, H1, I1, rx, a, dx, fs, ex, ea, q⟩ => ?_)
  subst ex
  obtain rfl : u = Value.ref a := rx
  exact getprop_R I1 ea c hp F hr q
end
def gC1 (c : Str) (_ : Sto) : List W → Bool
  | [.d (.ins c1 _ _)] => c1 == c
  | _ => false
def prC (c : Str) (m : MF) (o : ME) : ME := fun τ S => (o τ S).bind fun w S1 => run (qOf (gC1 c) m) [w] S1
section
variable {X : Cx} {Wx : WX} {k : Nat} {g pp : Addr} {fn : Str} {o : Expr} {mo : ME} {pos : Pos}
theorem me_prpC {c : Str} (cl : Cls X.K (ga X.K c)) (hp : PropSl X.K (ga X.K c) fn pp g) {m : MF} (F : FnR X.prog X.w X.K X.mg X.base (L2.CX X.prog X.w) k g (spM X.gx m)) (hr : Room (k + 1) X.A) (ho : EE X Wx o mo)
    (hb : attributeBase o fn X.env (eval o X.env) = eval o X.env := by rfl) : EE X Wx (.Attribute o fn pos) (prC c m mo) := PE.imp (pe_propR ho cl hp F hr hb) fun σ H Q h => by
  refine tM_then (R1 := rW X.gx) (k := fun w τ S1 => run (qOf (gC1 c) m) [w] S1) h fun v H1 ⟨F', α, S, τ, b1, r, sl, q1, f⟩ => ?_
  obtain ⟨F', α, S, ws, r, hw, hg, q⟩ := qOf_sp (E := E0) (rQ_of r (RepWs.mk1 q1) f)
  obtain ⟨w1, rfl, h1⟩ := hw.one
  unfold gC1 at hg
  split at hg
  · rename_i c1 fs xs e0
    cases e0
    have e1 := eq_of_beq hg
    subst e1
    unfold RepW Rep at h1
    obtain ⟨a, dx, vs, rfl, _, _, ha, _⟩ := h1
    exact ⟨a, dx, _, rfl, ha, q⟩
  · cases hg
end
end Mi
set_option Elab.async false
set_option linter.all false
set_option maxRecDepth 100000
set_option maxHeartbeats 4000000
namespace Mi
open PySem PySem.Spec PyProof.Rows L2 He Wl
def m_is_integer (cs : List Str) : MF := defM 1 0 (rtS (byM (callM (qIsi cs) (aC (vM 0) (aC (cM (.ty "int")) aN))) (byM (callM (qIsi cs) (aC (vM 0) (aC (cM (.ty "bool")) aN))) (cM (.bl false)) (cM (.bl true))) (cM (.bl false))))
def m_is_list (cs : List Str) : MF := defM 1 0 (rtS (callM (qIsi cs) (aC (vM 0) (aC (tpM (aC (cM (.ty "list")) (aC (cM (.ty "tuple")) aN))) aN))))
def m_common_divisor (cs : List Str) : MF := defM 2 0 (seqS (whS (tsM (oM qNe (vM 1) (cM (.int 0)))) (paS 0 1 (aC (vM 1) (aC (oM qModI (vM 0) (vM 1)) aN))) fuel) (rtS (callM qAbs (aC (vM 0) aN))))
section
variable {S : Sto} {i j : Int} {cs : List Str}
@[simp] theorem run_neI : run qNe [.d (.int i), .d (.int j)] S = .ok (.d (.bl (!(i == j)))) S := by simp [run, qNe, pure2, eqW, plainD, toPy, eqD, toD, toDf]
@[simp] theorem run_eqI : run qEq [.d (.int i), .d (.int j)] S = .ok (.d (.bl (i == j))) S := by simp [run, qEq, pure2, eqW, plainD, toPy, eqD, toD, toDf]
@[simp] theorem run_addI : run qADD [.d (.int i), .d (.int j)] S = .ok (.d (.int (i + j))) S := rfl
@[simp] theorem run_subI : run qSubI [.d (.int i), .d (.int j)] S = .ok (.d (.int (i - j))) S := rfl
@[simp] theorem run_ltI : run qLT [.d (.int i), .d (.int j)] S = .ok (.d (.bl (decide (i < j)))) S := rfl
@[simp] theorem run_leI : run qLE [.d (.int i), .d (.int j)] S = .ok (.d (.bl (decide (i ≤ j)))) S := rfl
@[simp] theorem run_gtI : run qGtI [.d (.int i), .d (.int j)] S = .ok (.d (.bl (decide (j < i)))) S := rfl
@[simp] theorem run_geI : run qGeI [.d (.int i), .d (.int j)] S = .ok (.d (.bl (decide (j ≤ i)))) S := rfl
@[simp] theorem run_negI : run qNegI [.d (.int i)] S = .ok (.d (.int (-i))) S := rfl
theorem run_modI (h : j ≠ 0) : run qModI [.d (.int i), .d (.int j)] S = .ok (.d (.int (i.fmod j))) S := by
  unfold run qModI pure2 int2
  simp [h]
theorem run_divI (h : j ≠ 0) (h2 : j.natAbs.log2 < 9000) : run qDivI [.d (.int i), .d (.int j)] S = .ok (.d (.int (i.fdiv j))) S := by
  unfold run qDivI pure2 int2
  simp [h, h2]
theorem run_mulI (h : i.natAbs.log2 + j.natAbs.log2 < 1000000) : run qMUL [.d (.int i), .d (.int j)] S = .ok (.d (.int (i * j))) S := by
  unfold run qMUL orQ qMulI pure2 int2
  simp [h]
theorem run_isi {x : D} {t : Tg} {n : String} (h : tgD x = some t) (ht : okT cs t = true) (hn : okT cs (.b n) = true) : run (qIsi cs) [.d x, .d (.ty n)] S = .ok (.d (.bl (isT t (.b n)))) S := by
  unfold run qIsi pure2
  simp [tgW, h, ht, hn, clsW, clsD]
end
theorem okD_tag {cs : List Str} {x : D} (h : okD cs x = true) : ∃ t, tgD x = some t ∧ okT cs t = true := by
  unfold okD at h
  split at h
  · exact ⟨_, by assumption, h⟩
  · cases h
theorem okT_b {cs : List Str} {n : String} (h : n ∈ ordT) : okT cs (.b n) = true := by simpa [okT] using h
theorem intD_tag {x : D} {t : Tg} (h : tgD x = some t) : intD x = (isT t (.b "int") && !isT t (.b "bool")) := by
  cases x with
  | ins c fs vs =>
    rw [show tgD (.ins c fs vs) = if c = ratS then none else some (.c c) from rfl] at h
    split at h
    · cases h
    · cases h; rfl
  | ty n => cases h
  | gl n => cases h
  | scr n => cases h
  | _ => cases h; rfl
theorem m_is_integer_eq {cs : List Str} {x : D} (h : okD cs x = true) : m_is_integer cs [.d x] [] = .ok (.d (.bl (intD x))) [] := by
  obtain ⟨t, e, ot⟩ := okD_tag h
  unfold m_is_integer defM
  simp only [List.length_cons, List.length_nil, if_true, List.map_cons, List.map_nil, List.replicate, List.append_nil, rtS, byM, callM, aC, aN, vM, cM, List.getElem?_cons_zero, Res.bind_ok]
  rw [run_isi e ot (okT_b (by decide)), intD_tag e]
  cases h1 : isT t (.b "int")
  · rfl
  · simp only [Res.bind_ok, byM, callM, aC, aN, vM, cM, List.getElem?_cons_zero]
    rw [run_isi e ot (okT_b (by decide))]
    cases h2 : isT t (.b "bool") <;> rfl
theorem gcd_loop : ∀ (n : Nat) (a b : Int), b.natAbs < n → ∃ g : Int, g.natAbs = Int.gcd a b ∧ whS (tsM (oM qNe (vM 1) (cM (.int 0)))) (paS 0 1 (aC (vM 1) (aC (oM qModI (vM 0) (vM 1)) aN))) n [some (.d (.int a)), some (.d (.int b))] [] = .nx [some (.d (.int g)), some (.d (.int 0))] []
  | 0, a, b, h => absurd h (Nat.not_lt_zero _)
  | n + 1, a, b, h => by
    unfold whS
    simp only [tsM, oM, vM, cM, List.getElem?_cons_succ, List.getElem?_cons_zero, Res.bind_ok, run_neI, Res.out_ok]
    by_cases hb : b = 0
    · subst hb
      exact ⟨a, by simp, by simp⟩
    · have e : (!(b == 0)) = true := by simp [hb]
      rw [e]
      simp only [if_true, paS, aC, vM, oM, aN, List.getElem?_cons_succ, List.getElem?_cons_zero, Res.bind_ok, run_modI hb, Res.out_ok]
      obtain ⟨g, h1, h2⟩ := gcd_loop n b (a.fmod b) (by have := fmod_natAbs_lt a hb; omega)
      refine ⟨g, by rw [h1, gcd_fmod], ?_⟩
      simpa using h2
theorem m_common_divisor_eq {cs : List Str} {a b : Int} (h : b.natAbs < 2 ^ 20000) : m_common_divisor cs [.d (.int a), .d (.int b)] [] = .ok (.d (.int (Int.gcd a b))) [] := by
  obtain ⟨g, h1, h2⟩ := gcd_loop fuel a b (by unfold fuel; exact h)
  unfold m_common_divisor defM
  simp only [List.length_cons, List.length_nil, if_true, List.map_cons, List.map_nil, List.replicate, List.append_nil, seqS]
  rw [h2]
  simp only [rtS, callM, aC, aN, vM, List.getElem?_cons_zero, Res.bind_ok]
  have : run qAbs [W.d (.int g)] ([] : Sto) = .ok (.d (.int (Int.gcd a b))) [] := by
    rw [← h1]
    simp only [run, qAbs, pure1, Option.map_some]
    congr 3
    try omega
  rw [this]
  rfl
end Mi
set_option Elab.async false
set_option linter.all false
set_option maxRecDepth 100000
set_option maxHeartbeats 4000000
namespace Mi
open PySem PySem.Spec PyProof.Rows L2 He Wl
def m_Ratio_top (cs : List Str) : MF := defM 1 0 (rtS (sltM 1 (vM 0)))
def m_Ratio_bottom (cs : List Str) : MF := defM 1 0 (rtS (sltM 0 (vM 0)))
def m_parts (cs : List Str) : MF := defM 1 0 (seqS (ifS (tsM (callM (qIsi cs) (aC (vM 0) (aC (cM (.gl "Ratio")) aN)))) (rtS (tpM (aC (prM (m_Ratio_top cs) (vM 0)) (aC (prM (m_Ratio_bottom cs) (vM 0)) aN)))) ((fun τ S => .nx τ S))) (rtS (tpM (aC (vM 0) (aC (cM (.int 1)) aN)))))
def m_Ratio___add__ (cs : List Str) : MF := defM 2 2 (seqS (asS (apM (callP (m_parts cs)) (aC (vM 1) aN)) (gT 2 (gsC (gN 2) (gsC (gN 3) gsN)))) (rtS (apM (newR cs) (aC (oM qADD (oM qMUL (sltM 1 (vM 0)) (vM 3)) (oM qMUL (vM 2) (sltM 0 (vM 0)))) (aC (oM qMUL (sltM 0 (vM 0)) (vM 3)) aN)))))
def m_Ratio___sub__ (cs : List Str) : MF := defM 2 2 (seqS (asS (apM (callP (m_parts cs)) (aC (vM 1) aN)) (gT 2 (gsC (gN 2) (gsC (gN 3) gsN)))) (rtS (apM (newR cs) (aC (oM qSubI (oM qMUL (sltM 1 (vM 0)) (vM 3)) (oM qMUL (vM 2) (sltM 0 (vM 0)))) (aC (oM qMUL (sltM 0 (vM 0)) (vM 3)) aN)))))
def m_Ratio___mul__ (cs : List Str) : MF := defM 2 2 (seqS (asS (apM (callP (m_parts cs)) (aC (vM 1) aN)) (gT 2 (gsC (gN 2) (gsC (gN 3) gsN)))) (rtS (apM (newR cs) (aC (oM qMUL (sltM 1 (vM 0)) (vM 2)) (aC (oM qMUL (sltM 0 (vM 0)) (vM 3)) aN)))))
def m_is_number (cs : List Str) : MF := defM 1 0 (rtS (byM (callM (qIsi cs) (aC (vM 0) (aC (cM (.gl "Ratio")) aN))) (cM (.bl true)) (apM (callP (m_is_integer cs)) (aC (vM 0) aN))))
def m_Ratio___eq__ (cs : List Str) : MF := defM 2 0 (seqS (ifS (ntM (tsM (apM (callP (m_is_number cs)) (aC (vM 1) aN)))) (rtS (cM (.bl false))) ((fun τ S => .nx τ S))) (rtS (oM qEq (tpM (aC (sltM 1 (vM 0)) (aC (sltM 0 (vM 0)) aN))) (apM (callP (m_parts cs)) (aC (vM 1) aN)))))
def m_Ratio_below (cs : List Str) : MF := defM 2 2 (seqS (asS (apM (callP (m_parts cs)) (aC (vM 1) aN)) (gT 2 (gsC (gN 2) (gsC (gN 3) gsN)))) (rtS (oM qLT (oM qMUL (sltM 1 (vM 0)) (vM 3)) (oM qMUL (vM 2) (sltM 0 (vM 0))))))
def m_Ratio_text (cs : List Str) : MF := defM 1 0 (rtS (ifM (tsM (oM qEq (sltM 0 (vM 0)) (cM (.int 1)))) (callM qStrI (aC (sltM 1 (vM 0)) aN)) (jsM [(fmM (sltM 1 (vM 0))), (cM (.str "/")), (fmM (sltM 0 (vM 0)))] Str.empty)))
def m_as_ratio (cs : List Str) : MF := defM 1 2 (seqS (ifS (ntM (tsM (apM (callP (m_is_number cs)) (aC (vM 0) aN)))) (raS "InvalidNumber" ["value"] (aC (vM 0) aN)) ((fun τ S => .nx τ S))) (seqS (asS (apM (callP (m_parts cs)) (aC (vM 0) aN)) (gT 2 (gsC (gN 1) (gsC (gN 2) gsN)))) (rtS (apM (newR cs) (aC (vM 1) (aC (vM 2) aN))))))
def e_need_numbers_0 (cs : List Str) : ME := (byM (apM (callP (m_is_number cs)) (aC (vM 2) aN)) (cM (.bl false)) (cM (.bl true)))
def m_need_numbers (cs : List Str) : MF := defM 2 1 (ifS (orM (ntM (tsM (apM (callP (m_is_list cs)) (aC (vM 0) aN)))) (orM (tsM (oM qLT (callM qLEN (aC (vM 0) aN)) (vM 1))) (tsM (callM qAny (aC (lcM false [2] (itM (vM 0)) (gN 2) (fun _ S => .ok true S) (e_need_numbers_0 cs)) aN))))) (raS "InvalidNumber" ["value"] (aC (vM 0) aN)) ((fun τ S => .nx τ S)))
def b_total_0 (cs : List Str) : MS := (asS (oM (qOf gR2 (m_Ratio___add__ cs)) (vM 1) (vM 2)) (gN 1))
def m_total (cs : List Str) : MF := defM 1 2 (seqS (exS (apM (callP (m_need_numbers cs)) (aC (vM 0) (aC (cM (.int 0)) aN)))) (seqS (asS (apM (newR1 cs) (aC (cM (.int 0)) aN)) (gN 1)) (seqS (foS (itM (vM 0)) (gN 2) (b_total_0 cs)) (rtS (vM 1)))))
section
variable {cs : List Str}
theorem okT_rat : okT cs (.c ratS) = true := by simp [okT]
theorem run_isiR {S : Sto} {x : D} {t : Tg} (h : tgD x = some t) (ht : okT cs t = true) : run (qIsi cs) [.d x, .d (.gl ratS)] S = .ok (.d (.bl (isT t (.c ratS)))) S := by
  unfold run qIsi pure2
  simp [tgW, h, ht, okT_rat, clsW, clsD]
theorem low_ok {S : Sto} {x : D} {S' : Sto} : low true S (.ok (.d x) S') = .ok (.d x) S := by simp [low]
theorem callP_d {m : MF} {xs : List D} {S : Sto} : callP m (xs.map .d) S = low true S (m (xs.map .d) []) := by
  unfold callP
  rw [show mapO (toD 0 S) (xs.map .d) = some xs from mapO_d 0 S 3 xs]
  simp
theorem m_top_eq {r : Rat} : m_Ratio_top cs [.d (.rat r)] [] = .ok (.d (.int r.num)) [] := by simp [m_Ratio_top, defM, seqS, rtS, asS, ifS, exS, tsM, ntM, anM, orM, byM, ifM, callM, apM, aC, aN, vM, cM, tpM, prM, sltM, sltK, ratAt, gT, gsC, gsN, gN, oM, uM, msM, Res.out, W.items]
theorem m_bottom_eq {r : Rat} : m_Ratio_bottom cs [.d (.rat r)] [] = .ok (.d (.int r.den)) [] := by simp [m_Ratio_bottom, defM, seqS, rtS, asS, ifS, exS, tsM, ntM, anM, orM, byM, ifM, callM, apM, aC, aN, vM, cM, tpM, prM, sltM, sltK, ratAt, gT, gsC, gsN, gN, oM, uM, msM, Res.out, W.items]
theorem m_parts_int {i : Int} : m_parts cs [.d (.int i)] [] = .ok (.d (.tup [.int i, .int 1])) [] := by
  have e := run_isiR (cs := cs) (S := []) (x := .int i) (t := .b "int") rfl (okT_b (by decide))
  simp [m_parts, defM, seqS, rtS, asS, ifS, exS, tsM, ntM, anM, orM, byM, ifM, callM, apM, aC, aN, vM, cM, tpM, prM, sltM, sltK, ratAt, gT, gsC, gsN, gN, oM, uM, msM, Res.out, W.items, e, isT, mkT, onlyD]
theorem m_parts_rat {r : Rat} : m_parts cs [.d (.rat r)] [] = .ok (.d (.tup [.int r.num, .int r.den])) [] := by
  have e := run_isiR (cs := cs) (S := []) (x := .rat r) (t := .c ratS) rfl okT_rat
  have e1 : run (qOf gR1 (m_Ratio_top cs)) [.d (.rat r)] [] = .ok (.d (.int r.num)) [] := by
    have := callP_d (m := m_Ratio_top cs) (xs := [.rat r]) (S := [])
    simp only [List.map_cons, List.map_nil] at this
    simp [run, qOf, gR1, this, m_top_eq, low_ok]
  have e2 : run (qOf gR1 (m_Ratio_bottom cs)) [.d (.rat r)] [] = .ok (.d (.int r.den)) [] := by
    have := callP_d (m := m_Ratio_bottom cs) (xs := [.rat r]) (S := [])
    simp only [List.map_cons, List.map_nil] at this
    simp [run, qOf, gR1, this, m_bottom_eq, low_ok]
  simp [m_parts, defM, seqS, rtS, asS, ifS, exS, tsM, ntM, anM, orM, byM, ifM, callM, apM, aC, aN, vM, cM, tpM, prM, sltM, sltK, ratAt, gT, gsC, gsN, gN, oM, uM, msM, Res.out, W.items, e, e1, e2, isT, mkT, onlyD]
def Sz (n : Nat) (r : Rat) : Prop := r.num.natAbs < 2 ^ n ∧ r.den < 2 ^ n
theorem parts_num {y : D} {q : Rat} (h : numD y = some q) : m_parts cs [.d y] [] = .ok (.d (.tup [.int q.num, .int q.den])) [] := by
  cases y with
  | int i => cases h; exact m_parts_int
  | rat r => cases h; exact m_parts_rat
  | _ => cases h
theorem parts_call {y : D} {q : Rat} {S : Sto} (h : numD y = some q) : callP (m_parts cs) [.d y] S = .ok (.d (.tup [.int q.num, .int q.den])) S := by
  have := callP_d (m := m_parts cs) (xs := [y]) (S := S)
  simp only [List.map_cons, List.map_nil] at this
  rw [this, parts_num h, low_ok]
theorem newR_eq {p q : Int} {S : Sto} (hq : q ≠ 0) (h : q.natAbs < 2 ^ 8000) : newR cs [.d (.int p), .d (.int q)] S = .ok (.d (.rat (Rat.divInt p q))) S := by
  have e : okD cs (.int p) = true := (okT_b (n := "int") (by decide) : okT cs (.b "int") = true)
  have e2 : okD cs (.int q) = true := (okT_b (n := "int") (by decide) : okT cs (.b "int") = true)
  have e3 : bdB 8000 q = true := decide_eq_true h
  simp [newR, e, e2, hq, e3]
theorem lg {i : Int} {n : Nat} (h : i.natAbs < 2 ^ n) : i.natAbs.log2 ≤ n := by
  by_cases z : i.natAbs = 0
  · rw [z]; simp
  · exact Nat.le_of_lt ((Nat.log2_lt z).mpr h)
theorem mulS {i j : Int} {S : Sto} (h : i.natAbs < 2 ^ 4000) (h' : j.natAbs < 2 ^ 4000) : run qMUL [.d (.int i), .d (.int j)] S = .ok (.d (.int (i * j))) S := run_mulI (by have := lg h; have := lg h'; omega)
theorem denS {r q : Rat} (h : Sz 4000 r) (h' : Sz 4000 q) : ((r.den : Int) * q.den).natAbs < 2 ^ 8000 := by
  have : ((r.den : Int) * q.den).natAbs = r.den * q.den := by rw [← Int.natCast_mul]; rfl
  rw [this]
  calc r.den * q.den < 2 ^ 4000 * 2 ^ 4000 := Nat.mul_lt_mul'' h.2 h'.2
    _ = 2 ^ 8000 := by rw [← Nat.pow_add]
theorem den0 (r q : Rat) : ((r.den : Int) * q.den) ≠ 0 := by
  have := r.den_pos; have := q.den_pos
  exact Int.ne_of_gt (Int.mul_pos (by omega) (by omega))
theorem dn {r : Rat} {n : Nat} (h : Sz n r) : ((r.den : Nat) : Int).natAbs < 2 ^ n := h.2
theorem m_add_eq {r q : Rat} {y : D} (hy : numD y = some q) (hr : Sz 4000 r) (hq : Sz 4000 q) : m_Ratio___add__ cs [.d (.rat r), .d y] [] = .ok (.d (.rat (r + q))) [] := by
  have e : Rat.divInt (r.num * q.den + q.num * r.den) ((r.den : Int) * q.den) = r + q := by
    rw [← Rat.divInt_add_divInt _ _ (by have := r.den_pos; omega) (by have := q.den_pos; omega), Rat.num_divInt_den, Rat.num_divInt_den]
  simp [m_Ratio___add__, defM, seqS, rtS, asS, ifS, exS, tsM, ntM, anM, orM, byM, ifM, callM, apM, aC, aN, vM, cM, tpM, prM, sltM, sltK, ratAt, gT, gsC, gsN, gN, oM, uM, msM, Res.out, W.items, parts_call hy, mulS hr.1 (dn hq), mulS hq.1 (dn hr), mulS (dn hr) (dn hq), newR_eq (den0 r q) (denS hr hq), e]
def numB (x : D) : Bool := (numD x).isSome
theorem m_is_number_eq {x : D} (h : okD cs x = true) : m_is_number cs [.d x] [] = .ok (.d (.bl (numB x))) [] := by
  obtain ⟨t, e, ot⟩ := okD_tag h
  have e1 := run_isiR (cs := cs) (S := []) e ot
  have e2 : callP (m_is_integer cs) [.d x] [] = .ok (.d (.bl (intD x))) [] := by
    have := callP_d (m := m_is_integer cs) (xs := [x]) (S := [])
    simp only [List.map_cons, List.map_nil] at this
    rw [this, m_is_integer_eq h, low_ok]
  cases x with
  | rat r => cases e; simp [m_is_number, defM, seqS, rtS, asS, ifS, exS, tsM, ntM, anM, orM, byM, ifM, callM, apM, aC, aN, vM, cM, tpM, prM, sltM, sltK, ratAt, gT, gsC, gsN, gN, oM, uM, msM, Res.out, W.items, e1, isT, numB, numD]
  | ins c fs vs =>
    rw [show tgD (.ins c fs vs) = if c = ratS then none else some (.c c) from rfl] at e
    split at e
    · cases e
    · rename_i nc
      cases e
      have nb : (c == ratS) = false := by simpa using nc
      rw [show isT (.c c) (.c ratS) = (c == ratS) from rfl, nb] at e1
      simp [m_is_number, defM, seqS, rtS, asS, ifS, exS, tsM, ntM, anM, orM, byM, ifM, callM, apM, aC, aN, vM, cM, tpM, prM, sltM, sltK, ratAt, gT, gsC, gsN, gN, oM, uM, msM, Res.out, W.items, e1, e2, numB, numD, intD]
  | ty n => cases e
  | gl n => cases e
  | scr n => cases e
  | _ => cases e; simp [m_is_number, defM, seqS, rtS, asS, ifS, exS, tsM, ntM, anM, orM, byM, ifM, callM, apM, aC, aN, vM, cM, tpM, prM, sltM, sltK, ratAt, gT, gsC, gsN, gN, oM, uM, msM, Res.out, W.items, e1, e2, isT, numB, numD, intD]
theorem num_call {x : D} {S : Sto} (h : okD cs x = true) : callP (m_is_number cs) [.d x] S = .ok (.d (.bl (numB x))) S := by
  have := callP_d (m := m_is_number cs) (xs := [x]) (S := S)
  simp only [List.map_cons, List.map_nil] at this
  rw [this, m_is_number_eq h, low_ok]
theorem num_ok {x : D} {q : Rat} (h : numD x = some q) : okD cs x = true := by
  cases x with
  | int i => exact (okT_b (n := "int") (by decide) : okT cs (.b "int") = true)
  | rat r => exact (okT_rat : okT cs (.c ratS) = true)
  | _ => cases h
theorem m_eq_eq {r q : Rat} {y : D} (hy : numD y = some q) : m_Ratio___eq__ cs [.d (.rat r), .d y] [] = .ok (.d (.bl (decide (r = q)))) [] := by
  have e1 := num_call (cs := cs) (S := []) (num_ok hy)
  have e2 : numB y = true := by simp [numB, hy]
  have e3 : (r.num == q.num && ((r.den : Int) == (q.den : Int))) = decide (r = q) := by
    by_cases h : r = q
    · subst h; simp
    · rw [decide_eq_false h]
      simp only [Bool.and_eq_false_iff, beq_eq_false_iff_ne]
      by_cases h1 : r.num = q.num
      · right
        intro h2
        exact h (Rat.ext h1 (by omega))
      · exact .inl h1
  simp [m_Ratio___eq__, defM, seqS, rtS, asS, ifS, exS, tsM, ntM, anM, orM, byM, ifM, callM, apM, aC, aN, vM, cM, tpM, prM, sltM, sltK, ratAt, gT, gsC, gsN, gN, oM, uM, msM, Res.out, W.items, e1, e2, parts_call hy, mkT, onlyD, run, qEq, pure2, eqW, plainD, toPy, eqD, eqDs, toD, toDf, ← e3]
end
end Mi
set_option Elab.async false
set_option linter.all false
set_option maxRecDepth 100000
set_option maxHeartbeats 4000000
namespace Mi
open PySem PySem.Spec PyProof.Rows L2 He Wl
end Mi
set_option Elab.async false
set_option linter.all false
set_option maxRecDepth 100000
set_option maxHeartbeats 4000000
namespace Mi
open PySem PySem.Spec PyProof.Rows L2 He Wl
section
variable {cs : List Str}
theorem num_gR {y : D} {q r : Rat} {S : Sto} (h : numD y = some q) : gR2 S [.d (.rat r), .d y] = true := by
  cases y with
  | int i => rfl
  | rat r => rfl
  | _ => cases h
theorem run_addR {r q : Rat} {y : D} {S : Sto} (hy : numD y = some q) (hr : Sz 4000 r) (hq : Sz 4000 q) : run (qOf gR2 (m_Ratio___add__ cs)) [.d (.rat r), .d y] S = .ok (.d (.rat (r + q))) S := by
  have := callP_d (m := m_Ratio___add__ cs) (xs := [.rat r, y]) (S := S)
  simp only [List.map_cons, List.map_nil] at this
  rw [m_add_eq hy hr hq, low_ok] at this
  simp [run, qOf, num_gR hy, this]
end
end Mi
set_option Elab.async false
set_option linter.all false
set_option maxRecDepth 100000
set_option maxHeartbeats 4000000
namespace Mi
open PySem PySem.Spec PyProof.Rows L2 He Wl
def e_is_name_0 (cs : List Str) : ME := (chM qLE qLE (cM (.str "a")) (vM 1) (cM (.str "z")))
def m_is_name (cs : List Str) : MF := defM 1 1 (seqS (ifS (orM (ntM (tsM (callM (qIsi cs) (aC (vM 0) (aC (cM (.ty "str")) aN))))) (ntM (tsM (chM qLE qLE (cM (.int 1)) (callM qLEN (aC (vM 0) aN)) (cM (.int 8)))))) (rtS (cM (.bl false))) ((fun τ S => .nx τ S))) (rtS (callM qAll (aC (lcM false [1] (stM (vM 0)) (gN 1) (fun _ S => .ok true S) (e_is_name_0 cs)) aN))))
def m_need_chance (cs : List Str) : MF := defM 1 0 (ifS (orM (ntM (tsM (apM (callP (m_is_number cs)) (aC (vM 0) aN)))) (ntM (tsM (msM (callP (m_Ratio_below cs)) (apM (newR1 cs) (aC (cM (.int 0)) aN)) (aC (vM 0) aN))))) (raS "InvalidChance" ["value"] (aC (vM 0) aN)) ((fun τ S => .nx τ S)))
def m_need_two (cs : List Str) : MF := defM 1 0 (ifS (orM (ntM (tsM (callM (qIsi cs) (aC (vM 0) (aC (cM (.ty "tuple")) aN))))) (tsM (oM qNe (callM qLEN (aC (vM 0) aN)) (cM (.int 2))))) (raS "InvalidHouse" ["value"] (aC (vM 0) aN)) ((fun τ S => .nx τ S)))
def m_need_few (cs : List Str) : MF := defM 2 0 (ifS (orM (ntM (tsM (apM (callP (m_is_list cs)) (aC (vM 0) aN)))) (ntM (tsM (chM qLE qLE (cM (.int 1)) (callM qLEN (aC (vM 0) aN)) (vM 1))))) (raS "InvalidHouse" ["value"] (aC (vM 0) aN)) ((fun τ S => .nx τ S)))
def m_need_new_name (cs : List Str) : MF := defM 2 0 (seqS (ifS (ntM (tsM (apM (callP (m_is_name cs)) (aC (vM 0) aN)))) (raS "InvalidName" ["value"] (aC (vM 0) aN)) ((fun τ S => .nx τ S))) (ifS (tsM (oM qIN (vM 0) (vM 1))) (raS "Duplicate" ["value"] (aC (vM 0) aN)) ((fun τ S => .nx τ S))))
def b_told_kinds_0 (cs : List Str) : MS := (ifS (tsM (vM 1)) (seqS (exS (apM (callT (m_need_new_name cs)) (aC (vM 4) (aC (vM 2) aN)))) (exS (bmM tyL qAppend (vM 2) (aC (vM 4) aN)))) (seqS (exS (apM (callP (m_need_two cs)) (aC (vM 4) aN))) (seqS (exS (apM (callT (m_need_new_name cs)) (aC (oM qIX (vM 4) (cM (.int 0))) (aC (vM 2) aN)))) (seqS (exS (apM (callP (m_need_chance cs)) (aC (oM qIX (vM 4) (cM (.int 1))) aN))) (seqS (exS (bmM tyL qAppend (vM 2) (aC (oM qIX (vM 4) (cM (.int 0))) aN))) (exS (bmM tyL qAppend (vM 3) (aC (apM (callP (m_as_ratio cs)) (aC (oM qIX (vM 4) (cM (.int 1))) aN)) aN))))))))
def m_told_kinds (cs : List Str) : MF := defM 2 3 (seqS (exS (apM (callP (m_need_few cs)) (aC (vM 0) (aC (cM (.int 4)) aN)))) (seqS (paS 2 3 (aC (loM aN) (aC (loM aN) aN))) (seqS (foS (itM (vM 0)) (gN 4) (b_told_kinds_0 cs)) (seqS (ifS (tsM (msM (callP (m_Ratio_below cs)) (apM (newR1 cs) (aC (cM (.int 1)) aN)) (aC (apM (callT (m_total cs)) (aC (vM 3) aN)) aN))) (raS "InvalidChance" ["value"] (aC (apM (callT (m_total cs)) (aC (vM 3) aN)) aN)) ((fun τ S => .nx τ S))) (rtS (tpM (aC (vM 2) (aC (vM 3) aN))))))))
def b_told_bidders_0 (cs : List Str) : MS := (seqS (exS (apM (callP (m_need_two cs)) (aC (vM 5) aN))) (seqS (exS (apM (callT (m_need_new_name cs)) (aC (oM qIX (vM 5) (cM (.int 0))) (aC (vM 2) aN)))) (seqS (asS (apM (callP (m_told_kinds cs)) (aC (oM qIX (vM 5) (cM (.int 1))) (aC (vM 1) aN))) (gN 6)) (seqS (exS (bmM tyL qAppend (vM 2) (aC (oM qIX (vM 5) (cM (.int 0))) aN))) (seqS (exS (bmM tyL qAppend (vM 3) (aC (oM qIX (vM 6) (cM (.int 0))) aN))) (exS (bmM tyL qAppend (vM 4) (aC (oM qIX (vM 6) (cM (.int 1))) aN))))))))
def m_told_bidders (cs : List Str) : MF := defM 2 5 (seqS (exS (apM (callP (m_need_few cs)) (aC (vM 0) (aC (cM (.int 4)) aN)))) (seqS (pa3S 2 3 4 (aC (loM aN) (aC (loM aN) (aC (loM aN) aN)))) (seqS (foS (itM (vM 0)) (gN 5) (b_told_bidders_0 cs)) (rtS (tpM (aC (vM 2) (aC (vM 3) (aC (vM 4) aN))))))))
def e_every_day_0 (cs : List Str) : ME := (tpM (aS (vM 3) (aC (vM 4) aN)))
def b_every_day_0 (cs : List Str) : MS := (asS (lc2M false [3, 4] [4] (itM (vM 1)) (gN 3) (fun _ S => .ok true S) (itM (lsM (aS (vM 2) (aC (cM .non) aN)))) (gN 4) (fun _ S => .ok true S) (e_every_day_0 cs)) (gN 1))
def m_every_day (cs : List Str) : MF := defM 1 4 (seqS (asS (lsM (aC (tpM aN) aN)) (gN 1)) (seqS (foS (itM (vM 0)) (gN 2) (b_every_day_0 cs)) (rtS (vM 1))))
def t_pairs_of_0 (cs : List Str) : MT := (tsM (oM qNotN (vM 3) (cM .non)))
def e_pairs_of_0 (cs : List Str) : ME := (tpM (aC (vM 2) (aC (vM 3) aN)))
def m_pairs_of (cs : List Str) : MF := defM 2 2 (rtS (lcM false [2, 3] (z2M (aC (vM 0) (aC (vM 1) aN))) (gT 2 (gsC (gN 2) (gsC (gN 3) gsN))) (t_pairs_of_0 cs) (e_pairs_of_0 cs)))
def b_product_of_0 (cs : List Str) : MS := (asS (oM (qOf gR2 (m_Ratio___mul__ cs)) (vM 3) (ifM (tsM (oM qIsN (vM 4) (cM .non))) (oM (qOf gR2 (m_Ratio___sub__ cs)) (apM (newR1 cs) (aC (cM (.int 1)) aN)) (apM (callP (m_total cs)) (aC (vM 6) aN))) (oM qIX (vM 6) (bmM tyL qIndex (vM 5) (aC (vM 4) aN))))) (gN 3))
def m_product_of (cs : List Str) : MF := defM 3 4 (seqS (asS (apM (newR1 cs) (aC (cM (.int 1)) aN)) (gN 3)) (seqS (foS (z3M (aC (vM 0) (aC (vM 1) (aC (vM 2) aN)))) (gT 3 (gsC (gN 4) (gsC (gN 5) (gsC (gN 6) gsN)))) (b_product_of_0 cs)) (rtS (vM 3))))
def e_House_pairs_0 (cs : List Str) : ME := (tpM (aC (vM 1) (aC (vM 3) aN)))
def m_House_pairs (cs : List Str) : MF := defM 1 3 (rtS (lc2M false [1, 2, 3] [3] (z2M (aC (fdM "House" "own_names" (vM 0)) (aC (fdM "House" "own_kinds" (vM 0)) aN))) (gT 2 (gsC (gN 1) (gsC (gN 2) gsN))) (fun _ S => .ok true S) (itM (vM 2)) (gN 3) (fun _ S => .ok true S) (e_House_pairs_0 cs)))
def e_House_has_products_0 (cs : List Str) : ME := (oM (qOf (gRx cs) (m_Ratio___eq__ cs)) (apM (callT (m_product_of cs)) (aC (vM 5) (aC (fdM "House" "own_kinds" (vM 0)) (aC (vM 1) aN)))) (vM 6))
def e_House_has_products_1 (cs : List Str) : ME := (oM qIX (fdM "House" "own_chances" (vM 0)) (tpM (aC (vM 2) (aC (vM 4) aN))))
def b_House_has_products_0 (cs : List Str) : MS := (exS (bmM tyL qAppend (vM 1) (aC (lcM false [4] (itM (vM 3)) (gN 4) (fun _ S => .ok true S) (e_House_has_products_1 cs)) aN)))
def m_House_has_products (cs : List Str) : MF := defM 1 6 (seqS (asS (loM aN) (gN 1)) (seqS (foS (z2M (aC (fdM "House" "own_names" (vM 0)) (aC (fdM "House" "own_kinds" (vM 0)) aN))) (gT 2 (gsC (gN 2) (gsC (gN 3) gsN))) (b_House_has_products_0 cs)) (rtS (callM qAll (aC (lcM false [5, 6] (itsM (fdM "House" "table" (vM 0))) (gT 2 (gsC (gN 5) (gsC (gN 6) gsN))) (fun _ S => .ok true S) (e_House_has_products_0 cs)) aN)))))
def e_House_bidder_lines_0 (cs : List Str) : ME := (ifM (tsM (fdM "House" "free" (vM 0))) (jsM [(fmM (vM 5)), (cM (.str " ")), (fmM (msM (callP (m_Ratio_text cs)) (oM qIX (fdM "House" "own_chances" (vM 0)) (tpM (aC (vM 2) (aC (vM 5) aN)))) aN))] Str.empty) (vM 5))
def b_House_bidder_lines_0 (cs : List Str) : MS := (seqS (asS (lcM false [5] (itM (vM 3)) (gN 5) (fun _ S => .ok true S) (e_House_bidder_lines_0 cs)) (gN 4)) (exS (bmM tyL qAppend (vM 1) (aC (jsM [(fmM (vM 2)), (cM (.str ": ")), (fmM (bmM tyS qJoin (cM (.str ", ")) (aC (vM 4) aN)))] Str.empty) aN))))
def m_House_bidder_lines (cs : List Str) : MF := defM 1 5 (seqS (asS (loM aN) (gN 1)) (seqS (foS (z2M (aC (fdM "House" "own_names" (vM 0)) (aC (fdM "House" "own_kinds" (vM 0)) aN))) (gT 2 (gsC (gN 2) (gsC (gN 3) gsN))) (b_House_bidder_lines_0 cs)) (rtS (vM 1))))
def e_day_line_0 (cs : List Str) : ME := (ifM (tsM (oM qIsN (vM 2) (cM .non))) (cM (.str "-")) (vM 2))
def m_day_line (cs : List Str) : MF := defM 2 1 (rtS (bmM tyS qJoin (cM (.str " ")) (aC (lsM (aC (cM (.str "day")) (aS (lcM false [2] (itM (vM 0)) (gN 2) (fun _ S => .ok true S) (e_day_line_0 cs)) (aC (msM (callP (m_Ratio_text cs)) (vM 1) aN) aN)))) aN)))
def e_House_day_lines_0 (cs : List Str) : ME := (apM (callP (m_day_line cs)) (aC (vM 1) (aC (vM 2) aN)))
def m_House_day_lines (cs : List Str) : MF := defM 1 2 (rtS (ifM (tsM (fdM "House" "free" (vM 0))) (lsM aN) (lcM false [1, 2] (itM (fdM "House" "own_days" (vM 0))) (gT 2 (gsC (gN 1) (gsC (gN 2) gsN))) (fun _ S => .ok true S) (e_House_day_lines_0 cs))))
def b_House_keep_0 (cs : List Str) : MS := (asS (oM (qOf gR2 (m_Ratio___add__ cs)) (oM qIX (fdM "House" "own_chances" (vM 0)) (vM 4)) (vM 3)) (gS qSET (fdM "House" "own_chances" (vM 0)) (vM 4)))
def b_House_keep_1 (cs : List Str) : MS := (foS (itM (apM (callP (m_pairs_of cs)) (aC (fdM "House" "own_names" (vM 0)) (aC (vM 2) aN)))) (gN 4) (b_House_keep_0 cs))
def k_House_keep_0 (cs : List Str) : ME := (vM 4)
def e_House_keep_0 (cs : List Str) : ME := (apM (newR1 cs) (aC (cM (.int 0)) aN))
def t_House_keep_0 (cs : List Str) : MT := (tsM (msM (callP (m_Ratio_below cs)) (apM (newR1 cs) (aC (cM (.int 0)) aN)) (aC (vM 3) aN)))
def e_House_keep_1 (cs : List Str) : ME := (tpM (aC (vM 2) (aC (vM 3) aN)))
def m_House_keep (cs : List Str) : MF := defM 2 3 (seqS (sfS "House" "table" (vM 0) (vM 1)) (seqS (sfS "House" "own_days" (vM 0) (lcM false [2, 3] (itsM (vM 1)) (gT 2 (gsC (gN 2) (gsC (gN 3) gsN))) (t_House_keep_0 cs) (e_House_keep_1 cs))) (seqS (sfS "House" "own_chances" (vM 0) (dcM [4] (itM (mtM "House" "pairs" (callT (m_House_pairs cs)) (vM 0) aN)) (gN 4) (fun _ S => .ok true S) (k_House_keep_0 cs) (e_House_keep_0 cs))) (seqS (foS (itM (fdM "House" "own_days" (vM 0))) (gT 2 (gsC (gN 2) (gsC (gN 3) gsN))) (b_House_keep_1 cs)) (seqS ((fun τ S => (sfS "House" "free" (vM 0) (mtM "House" "has_products" (callT (m_House_has_products cs)) (vM 0) aN)) τ (frzS S))) (sfS "House" "own_text" (vM 0) (bmM tyS qJoin (cM (.str "\n")) (aC (lsM (aS (mtM "House" "bidder_lines" (callT (m_House_bidder_lines cs)) (vM 0) aN) (aS (mtM "House" "day_lines" (callT (m_House_day_lines cs)) (vM 0) aN) aN))) aN))))))))
def k_House___init___0 (cs : List Str) : ME := (vM 5)
def e_House___init___0 (cs : List Str) : ME := (apM (callP (m_product_of cs)) (aC (vM 5) (aC (vM 3) (aC (vM 4) aN))))
def m_House___init__ (cs : List Str) : MF := defM 2 4 (seqS (asS (apM (callP (m_told_bidders cs)) (aC (vM 1) (aC (cM (.bl false)) aN))) (gT 3 (gsC (gN 2) (gsC (gN 3) (gsC (gN 4) gsN))))) (seqS (sfS "House" "own_names" (vM 0) (vM 2)) (seqS (sfS "House" "own_kinds" (vM 0) (vM 3)) (exS (mtM "House" "keep" (callO (m_House_keep cs)) (vM 0) (aC (fzM (dcM [5] (itM (apM (callP (m_every_day cs)) (aC (vM 3) aN))) (gN 5) (fun _ S => .ok true S) (k_House___init___0 cs) (e_House___init___0 cs))) aN))))))
def b_is_day_0 (cs : List Str) : MS := (ifS (anM (tsM (oM qNotN (vM 2) (cM .non))) (orM (ntM (tsM (callM (qIsi cs) (aC (vM 2) (aC (cM (.ty "str")) aN))))) (tsM (oM qNI (vM 2) (vM 3))))) (rtS (cM (.bl false))) ((fun τ S => .nx τ S)))
def m_is_day (cs : List Str) : MF := defM 2 2 (seqS (ifS (orM (ntM (tsM (callM (qIsi cs) (aC (vM 1) (aC (cM (.ty "tuple")) aN))))) (tsM (oM qNe (callM qLEN (aC (vM 1) aN)) (callM qLEN (aC (fdM "House" "own_names" (vM 0)) aN))))) (rtS (cM (.bl false))) ((fun τ S => .nx τ S))) (seqS (foS (z2M (aC (vM 1) (aC (fdM "House" "own_kinds" (vM 0)) aN))) (gT 2 (gsC (gN 2) (gsC (gN 3) gsN))) (b_is_day_0 cs)) (rtS (cM (.bl true)))))
def m_need_day (cs : List Str) : MF := defM 2 0 (ifS (ntM (tsM (apM (callP (m_is_day cs)) (aC (vM 0) (aC (vM 1) aN))))) (raS "InvalidDay" ["value"] (aC (vM 1) aN)) ((fun τ S => .nx τ S)))
def k_told_days_0 (cs : List Str) : ME := (vM 4)
def e_told_days_0 (cs : List Str) : ME := (bmM tyD qGetD (vM 2) (aC (vM 4) (aC (apM (newR1 cs) (aC (cM (.int 0)) aN)) aN)))
def b_told_days_0 (cs : List Str) : MS := (seqS (ifS (orM (ntM (tsM (callM (qIsi cs) (aC (vM 3) (aC (cM (.ty "tuple")) aN))))) (tsM (oM qNe (callM qLEN (aC (vM 3) aN)) (cM (.int 2))))) (raS "InvalidDays" ["value"] (aC (vM 3) aN)) ((fun τ S => .nx τ S))) (seqS (exS (apM (callP (m_need_day cs)) (aC (vM 0) (aC (oM qIX (vM 3) (cM (.int 0))) aN)))) (seqS (ifS (tsM (oM qIN (oM qIX (vM 3) (cM (.int 0))) (vM 2))) (raS "Duplicate" ["value"] (aC (oM qIX (vM 3) (cM (.int 0))) aN)) ((fun τ S => .nx τ S))) (seqS (exS (apM (callP (m_need_chance cs)) (aC (oM qIX (vM 3) (cM (.int 1))) aN))) (asS (apM (callP (m_as_ratio cs)) (aC (oM qIX (vM 3) (cM (.int 1))) aN)) (gS qSET (vM 2) (oM qIX (vM 3) (cM (.int 0)))))))))
def m_told_days (cs : List Str) : MF := defM 2 3 (seqS (ifS (orM (ntM (tsM (apM (callP (m_is_list cs)) (aC (vM 1) aN)))) (ntM (tsM (chM qLE qLE (cM (.int 1)) (callM qLEN (aC (vM 1) aN)) (cM (.int 60)))))) (raS "InvalidDays" ["value"] (aC (vM 1) aN)) ((fun τ S => .nx τ S))) (seqS (asS dnM (gN 2)) (seqS (foS (itM (vM 1)) (gN 3) (b_told_days_0 cs)) (seqS ((fun τ S => (ifS (tsM (oM (qOfN (gRx cs) (m_Ratio___eq__ cs)) (apM (callP (m_total cs)) (aC (lvM (vM 2)) aN)) (cM (.int 1)))) (raS "InvalidChance" ["value"] (aC (apM (callP (m_total cs)) (aC (lvM (vM 2)) aN)) aN)) ((fun τ S => .nx τ S))) τ (frzS S))) ((fun τ S => (rtS (fzM (dcM [4] (kysM (fdM "House" "table" (vM 0))) (gN 4) (fun _ S => .ok true S) (k_told_days_0 cs) (e_told_days_0 cs)))) τ (frzS S)))))))
def b_House_tied_0 (cs : List Str) : MS := (ifS (tsM (oM (qOf (gRx cs) (m_Ratio___eq__ cs)) (oM qIX (fdM "House" "own_chances" (vM 6)) (vM 10)) (cM (.int 0)))) (raS "UnknownPair" ["pair"] (aC (vM 10) aN)) ((fun τ S => .nx τ S)))
def e_House_tied_0 (cs : List Str) : ME := (tpM (aC (vM 9) (aC (apM (newR cs) (aC (cM (.int 1)) (aC (cM (.int 4)) aN))) aN)))
def e_House_tied_1 (cs : List Str) : ME := (tpM (aC (vM 7) (aC (lcM false [9] (itM (vM 8)) (gN 9) (fun _ S => .ok true S) (e_House_tied_0 cs)) aN)))
def m_House_tied (cs : List Str) : MF := defM 3 8 (seqS (asS (apM (callP (m_told_bidders cs)) (aC (vM 1) (aC (cM (.bl true)) aN))) (gT 3 (gsC (gN 3) (gsC (gN 4) (gsC (gN 5) gsN))))) (seqS (asS (apV 0 "House" (newO "House" (m_House___init__ cs)) (aC (lcM false [7, 8] (z2M (aC (vM 3) (aC (vM 4) aN))) (gT 2 (gsC (gN 7) (gsC (gN 8) gsN))) (fun _ S => .ok true S) (e_House_tied_1 cs)) aN)) (gN 6)) (seqS (exS (mtM "House" "keep" (callO (m_House_keep cs)) (vM 6) (aC (apM (callT (m_told_days cs)) (aC (vM 6) (aC (vM 2) aN))) aN))) (seqS (foS (itM (mtM "House" "pairs" (callT (m_House_pairs cs)) (vM 6) aN)) (gN 10) (b_House_tied_0 cs)) (rtS (vM 6))))))
def e_House___eq___0 (cs : List Str) : ME := (oM (qOf (gRx cs) (m_Ratio___eq__ cs)) (oM qIX (fdM "House" "table" (vM 0)) (vM 2)) (oM qIX (fdM "House" "table" (vM 1)) (vM 2)))
def m_House___eq__ (cs : List Str) : MF := defM 2 1 (seqS (ifS (ntM (tsM (callM (qIsi cs) (aC (vM 1) (aC (cM (.gl "House")) aN))))) (rtS (cM (.bl false))) ((fun τ S => .nx τ S))) (seqS (ifS (tsM (oM qNe (tpM (aC (fdM "House" "own_names" (vM 0)) (aC (fdM "House" "own_kinds" (vM 0)) aN))) (tpM (aC (fdM "House" "own_names" (vM 1)) (aC (fdM "House" "own_kinds" (vM 1)) aN))))) (rtS (cM (.bl false))) ((fun τ S => .nx τ S))) (rtS (callM qAll (aC (lcM false [2] (kysM (fdM "House" "table" (vM 0))) (gN 2) (fun _ S => .ok true S) (e_House___eq___0 cs)) aN)))))
def e_is_pair_0 (cs : List Str) : ME := (byM (callM (qIsi cs) (aC (vM 2) (aC (cM (.ty "str")) aN))) (cM (.bl false)) (cM (.bl true)))
def m_is_pair (cs : List Str) : MF := defM 2 1 (seqS (ifS (orM (ntM (tsM (callM (qIsi cs) (aC (vM 1) (aC (cM (.ty "tuple")) aN))))) (orM (tsM (oM qNe (callM qLEN (aC (vM 1) aN)) (cM (.int 2)))) (tsM (callM qAny (aC (lcM false [2] (itM (vM 1)) (gN 2) (fun _ S => .ok true S) (e_is_pair_0 cs)) aN))))) (rtS (cM (.bl false))) ((fun τ S => .nx τ S))) (rtS (oM qIN (vM 1) (mtM "House" "pairs" (callP (m_House_pairs cs)) (vM 0) aN))))
def m_need_pair (cs : List Str) : MF := defM 2 0 (ifS (ntM (tsM (apM (callT (m_is_pair cs)) (aC (vM 0) (aC (vM 1) aN))))) (raS "UnknownPair" ["pair"] (aC (vM 1) aN)) ((fun τ S => .nx τ S)))
def m_need_house (cs : List Str) : MF := defM 1 0 (ifS (ntM (tsM (callM (qIsi cs) (aC (vM 0) (aC (cM (.gl "House")) aN))))) (raS "InvalidHouse" ["value"] (aC (vM 0) aN)) ((fun τ S => .nx τ S)))
def m_House_chance (cs : List Str) : MF := defM 2 0 (seqS (exS (apM (callT (m_need_pair cs)) (aC (vM 0) (aC (vM 1) aN)))) (rtS (oM qIX (fdM "House" "own_chances" (vM 0)) (vM 1))))
def m_House_independent (cs : List Str) : MF := defM 1 0 (rtS (fdM "House" "free" (vM 0)))
def m_is_amount (cs : List Str) : MF := defM 1 0 (rtS (byM (apM (callP (m_is_number cs)) (aC (vM 0) aN)) (oM qGeI (oM qIX (apM (callP (m_parts cs)) (aC (vM 0) aN)) (cM (.int 0))) (cM (.int 0))) (cM (.bl false))))
def m_need_amount (cs : List Str) : MF := defM 1 0 (ifS (ntM (tsM (apM (callP (m_is_amount cs)) (aC (vM 0) aN)))) (raS "InvalidNumber" ["value"] (aC (vM 0) aN)) ((fun τ S => .nx τ S)))
def m_need_wish (cs : List Str) : MF := defM 1 0 (ifS (ntM (tsM (callM (qIsi cs) (aC (vM 0) (aC (cM (.gl "Wish")) aN))))) (raS "InvalidWish" ["value"] (aC (vM 0) aN)) ((fun τ S => .nx τ S)))
def k_Wish___init___0 (cs : List Str) : ME := (vM 5)
def e_Wish___init___0 (cs : List Str) : ME := (apM (callP (m_as_ratio cs)) (aC (bmM tyD qGetD (vM 2) (aC (vM 5) (aC (cM (.int 0)) aN))) aN))
def b_Wish___init___0 (cs : List Str) : MS := (seqS (exS (apM (callT (m_need_pair cs)) (aC (vM 1) (aC (vM 3) aN)))) (exS (apM (callP (m_need_amount cs)) (aC (vM 4) aN))))
def m_Wish___init__ (cs : List Str) : MF := defM 3 3 (seqS (exS (apM (callT (m_need_house cs)) (aC (vM 1) aN))) (seqS (ifS (ntM (tsM (callM (qIsi cs) (aC (vM 2) (aC (cM (.ty "dict")) aN))))) (raS "InvalidWish" ["value"] (aC (vM 2) aN)) ((fun τ S => .nx τ S))) (seqS (foS (itsM (vM 2)) (gT 2 (gsC (gN 3) (gsC (gN 4) gsN))) (b_Wish___init___0 cs)) (seqS (sfS "Wish" "house" (vM 0) (vM 1)) (sfS "Wish" "table" (vM 0) (fzM (dcM [5] (itM (mtM "House" "pairs" (callP (m_House_pairs cs)) (vM 1) aN)) (gN 5) (fun _ S => .ok true S) (k_Wish___init___0 cs) (e_Wish___init___0 cs))))))))
def e_Wish___eq___0 (cs : List Str) : ME := (oM (qOf (gRx cs) (m_Ratio___eq__ cs)) (vM 3) (oM qIX (fdM "Wish" "table" (vM 1)) (vM 2)))
def m_Wish___eq__ (cs : List Str) : MF := defM 2 2 (seqS (ifS (orM (ntM (tsM (callM (qIsi cs) (aC (vM 1) (aC (cM (.gl "Wish")) aN))))) (ntM (tsM (oM (qOf (gCx "House" cs) (m_House___eq__ cs)) (fdM "Wish" "house" (vM 0)) (fdM "Wish" "house" (vM 1)))))) (rtS (cM (.bl false))) ((fun τ S => .nx τ S))) (rtS (callM qAll (aC (lcM false [2, 3] (itsM (fdM "Wish" "table" (vM 0))) (gT 2 (gsC (gN 2) (gsC (gN 3) gsN))) (fun _ S => .ok true S) (e_Wish___eq___0 cs)) aN))))
def e_told_values_0 (cs : List Str) : ME := (byM (oM qEq (oM qIX (vM 6) (cM (.int 0))) (oM qIX (vM 5) (cM (.int 0)))) (byM (oM qNe (vM 6) (vM 5)) (oM (qOf (gRx cs) (m_Ratio___eq__ cs)) (oM qIX (vM 4) (vM 6)) (oM qIX (vM 4) (vM 5))) (cM (.bl false))) (cM (.bl false)))
def b_told_values_0 (cs : List Str) : MS := (ifS (tsM (callM qAny (aC (lcM false [6] (kysM (vM 4)) (gN 6) (fun _ S => .ok true S) (e_told_values_0 cs)) aN))) (raS "InvalidWorths" ["value"] (aC (vM 1) aN)) ((fun τ S => .nx τ S)))
def k_told_values_0 (cs : List Str) : ME := (vM 5)
def e_told_values_1 (cs : List Str) : ME := (apM (callP (m_as_ratio cs)) (aC (bmM tyD qGetD (vM 1) (aC (vM 5) (aC (cM (.int 0)) aN))) aN))
def b_told_values_1 (cs : List Str) : MS := (seqS (exS (apM (callT (m_need_pair cs)) (aC (vM 0) (aC (vM 2) aN)))) (ifS (ntM (tsM (apM (callP (m_is_amount cs)) (aC (vM 3) aN)))) (raS "InvalidNumber" ["value"] (aC (vM 3) aN)) ((fun τ S => .nx τ S))))
def m_told_values (cs : List Str) : MF := defM 2 5 (seqS (ifS (ntM (tsM (callM (qIsi cs) (aC (vM 1) (aC (cM (.ty "dict")) aN))))) (raS "InvalidWorths" ["value"] (aC (vM 1) aN)) ((fun τ S => .nx τ S))) (seqS (foS (itsM (vM 1)) (gT 2 (gsC (gN 2) (gsC (gN 3) gsN))) (b_told_values_1 cs)) (seqS (asS (fzM (dcM [5] (itM (mtM "House" "pairs" (callP (m_House_pairs cs)) (vM 0) aN)) (gN 5) (fun _ S => .ok true S) (k_told_values_0 cs) (e_told_values_1 cs))) (gN 4)) (seqS ((fun τ S => (foS (kysM (vM 4)) (gN 5) (b_told_values_0 cs)) τ (frzS S))) (seqS (ifS (ntM (tsM (prC "House" (m_House_independent cs) (vM 0)))) (raS "NotIndependent" [] aN) ((fun τ S => .nx τ S))) (rtS (vM 4)))))))
def k_told_payments_0 (cs : List Str) : ME := (vM 4)
def e_told_payments_0 (cs : List Str) : ME := (apM (callP (m_as_ratio cs)) (aC (bmM tyD qGetD (vM 1) (aC (vM 4) (aC (cM (.int 0)) aN))) aN))
def b_told_payments_0 (cs : List Str) : MS := (seqS (exS (apM (callT (m_need_pair cs)) (aC (vM 0) (aC (vM 2) aN)))) (ifS (ntM (tsM (apM (callP (m_is_number cs)) (aC (vM 3) aN)))) (raS "InvalidNumber" ["value"] (aC (vM 3) aN)) ((fun τ S => .nx τ S))))
def m_told_payments (cs : List Str) : MF := defM 2 3 (seqS (ifS (ntM (tsM (callM (qIsi cs) (aC (vM 1) (aC (cM (.ty "dict")) aN))))) (raS "InvalidWorths" ["value"] (aC (vM 1) aN)) ((fun τ S => .nx τ S))) (seqS (foS (itsM (vM 1)) (gT 2 (gsC (gN 2) (gsC (gN 3) gsN))) (b_told_payments_0 cs)) (rtS (fzM (dcM [4] (itM (mtM "House" "pairs" (callP (m_House_pairs cs)) (vM 0) aN)) (gN 4) (fun _ S => .ok true S) (k_told_payments_0 cs) (e_told_payments_0 cs))))))
def m_fall_of (cs : List Str) : MF := defM 2 4 ((fun _ _ => .no))
def m_fall (cs : List Str) : MF := defM 2 0 (seqS (exS (apM (callT (m_need_wish cs)) (aC (vM 0) aN))) (rtS (apM (callP (m_fall_of cs)) (aC (vM 0) (aC (apM (callP (m_told_values cs)) (aC (fdM "Wish" "house" (vM 0)) (aC (vM 1) aN))) aN)))))
def m_lies_of (cs : List Str) : MF := defM 3 4 ((fun _ _ => .no))
def m_lies (cs : List Str) : MF := defM 3 1 (seqS (exS (apM (callT (m_need_wish cs)) (aC (vM 0) aN))) (seqS (asS (apM (callP (m_told_values cs)) (aC (fdM "Wish" "house" (vM 0)) (aC (vM 1) aN))) (gN 3)) (rtS (apM (callP (m_lies_of cs)) (aC (vM 0) (aC (vM 3) (aC (apM (callP (m_told_payments cs)) (aC (fdM "Wish" "house" (vM 0)) (aC (vM 2) aN))) aN)))))))
def m_are_fair (cs : List Str) : MF := defM 3 3 (seqS (exS (apM (callT (m_need_wish cs)) (aC (vM 0) aN))) (seqS (asS (apM (callP (m_told_values cs)) (aC (fdM "Wish" "house" (vM 0)) (aC (vM 1) aN))) (gN 3)) (seqS (asS (apM (callP (m_told_payments cs)) (aC (fdM "Wish" "house" (vM 0)) (aC (vM 2) aN))) (gN 4)) ((fun _ _ => .no)))))
def m_greatest_payments (cs : List Str) : MF := defM 2 1 (seqS (exS (apM (callT (m_need_wish cs)) (aC (vM 0) aN))) (seqS (asS (apM (callP (m_told_values cs)) (aC (fdM "Wish" "house" (vM 0)) (aC (vM 1) aN))) (gN 2)) ((fun _ _ => .no))))
def e_income_0 (cs : List Str) : ME := (oM (qOf gR2 (m_Ratio___mul__ cs)) (mtM "House" "chance" (callP (m_House_chance cs)) (vM 0) (aC (vM 2) aN)) (vM 3))
def m_income (cs : List Str) : MF := defM 2 2 (seqS (exS (apM (callT (m_need_house cs)) (aC (vM 0) aN))) (rtS (apM (callP (m_total cs)) (aC (lcM false [2, 3] (itsM (apM (callP (m_told_payments cs)) (aC (vM 0) (aC (vM 1) aN)))) (gT 2 (gsC (gN 2) (gsC (gN 3) gsN))) (fun _ S => .ok true S) (e_income_0 cs)) aN))))
def m_evened_of (cs : List Str) : MF := defM 2 7 ((fun _ _ => .no))
def m_evened (cs : List Str) : MF := defM 2 0 (seqS (exS (apM (callT (m_need_house cs)) (aC (vM 0) aN))) (rtS (apM (callP (m_evened_of cs)) (aC (vM 0) (aC (apM (callP (m_told_values cs)) (aC (vM 0) (aC (vM 1) aN))) aN)))))
def m_best_income (cs : List Str) : MF := defM 2 6 (seqS (exS (apM (callT (m_need_house cs)) (aC (vM 0) aN))) (seqS (asS (apM (callT (m_told_values cs)) (aC (vM 0) (aC (vM 1) aN))) (gN 2)) ((fun _ _ => .no))))
theorem eq_self {cs : List Str} : EqSelf (m_Ratio___eq__ cs) := fun r => by
  rw [m_eq_eq (q := r) rfl]; simp
end Mi
set_option Elab.async false
set_option linter.all false
set_option maxRecDepth 100000
set_option maxHeartbeats 4000000
namespace Mi
open PySem PySem.Spec PyProof.Rows L2 He Wl
theorem vM_ap (i : Nat) (τ : Sl) (S : Sto) : vM i τ S = match τ[i]? with
    | some (some w) => .ok w S
    | _ => .no := rfl
theorem cM_ap (x : D) (τ : Sl) (S : Sto) : cM x τ S = .ok (.d x) S := rfl
def Fn (m : MF) (xs : List D) (y : D) : Prop := ∃ w S', m (xs.map .d) [] = .ok w S' ∧ toD 0 S' w = some y
section
variable {m : MF} {S : Sto} {a b c d y : D} {xs : List D}
theorem Fn.mk (h : m (xs.map .d) [] = .ok (.d y) S) : Fn m xs y := ⟨_, _, h, rfl⟩
theorem Fn.call (h : Fn m xs y) : callP m (xs.map .d) S = .ok (.d y) S := by
  obtain ⟨w, S', e, t⟩ := h
  rw [callP_d, e]
  simp [low, t]
theorem Fn.c1 (h : Fn m [a] y) : callP m [.d a] S = .ok (.d y) S := h.call
theorem Fn.c2 (h : Fn m [a, b] y) : callP m [.d a, .d b] S = .ok (.d y) S := h.call
theorem Fn.c3 (h : Fn m [a, b, c] y) : callP m [.d a, .d b, .d c] S = .ok (.d y) S := h.call
end
@[simp] theorem upto_lst (n : Nat) (xs : List D) : O.upto n (.lst (xs.map .d)) = true := uptoWs_map n xs
@[simp] theorem upto_dct (n : Nat) (ks : List NK) (xs : List D) : O.upto n (.dct ks (xs.map .d)) = true := uptoWs_map n xs
@[simp] theorem upto_ins (n : Nat) (c : Str) (fs : List Str) (xs : List D) : O.upto n (.ins c fs (xs.map .d)) = true := uptoWs_map n xs
@[simp] theorem upto_fz (n : Nat) (x : D) : O.upto n (.fz x) = true := rfl
theorem loop_step {g : MG} {b : MS} {w : W} {ws : List W} {τ τ1 τ2 : Sl} {S S1 S2 : Sto} (h1 : g w τ S = some (τ1, S1)) (h2 : b τ1 S1 = .nx τ2 S2) : loopS g b (w :: ws) τ S = loopS g b ws τ2 S2 := by
  rw [loopS]
  dsimp only
  rw [h1]
  dsimp only
  rw [h2]
def LO (xs : List D) : O := .lst (xs.map .d)
section
variable {S : Sto} {n : Nat} {xs : List D}
@[simp] theorem upto_LO (n : Nat) (xs : List D) : O.upto n (LO xs) = true := uptoWs_map n xs
end
def oD : Option Str → D
  | none => .non
  | some x => .str x
abbrev Day := List (Option Str)
def dayD (d : Day) : D := .tup (d.map oD)
abbrev Pair := Str × Str
def prD (p : Pair) : D := .tup [.str p.1, .str p.2]
def strL (l : List Str) : D := .lst (l.map .str)
def oK : Option Str → NK
  | none => .none
  | some x => .text x
def dayK (d : Day) : NK := .tup (d.map oK)
def prK (p : Pair) : NK := .tup [.text p.1, .text p.2]
theorem prK_inj {a b : Pair} (h : prK a = prK b) : a = b := by
  obtain ⟨a1, a2⟩ := a
  obtain ⟨b1, b2⟩ := b
  simp only [prK, NestedKey.tup.injEq, List.cons.injEq, NestedKey.text.injEq, and_true] at h
  rw [h.1, h.2]
@[simp] theorem kD_oK : ∀ o : Option Str, kD (oK o) = oD o
  | none => by unfold oK kD oD; rfl
  | some x => by unfold oK kD oD; rfl
theorem kDs_map : ∀ d : Day, kDs (d.map oK) = d.map oD
  | [] => by unfold List.map kDs; rfl
  | o :: d => by rw [List.map_cons]; unfold kDs; rw [kD_oK, kDs_map d]; rfl
@[simp] theorem kD_dayK (d : Day) : kD (dayK d) = dayD d := by
  unfold dayK kD dayD
  rw [kDs_map]
@[simp] theorem keyD_oD : ∀ o : Option Str, keyD (oD o) = some (oK o)
  | none => by unfold oD keyD; rfl
  | some x => by unfold oD keyD; rfl
theorem keyDs_map : ∀ d : Day, keyDs (d.map oD) = some (d.map oK)
  | [] => by simp [keyDs]
  | o :: d => by simp [keyDs, keyDs_map d]
theorem depth_oK : ∀ o : Option Str, (oK o).depth ≤ 1
  | none => by unfold oK NestedKey.depth; omega
  | some x => by unfold oK NestedKey.depth; omega
theorem depthAll_map : ∀ d : Day, NestedKey.depthAll (d.map oK) ≤ 1
  | [] => by unfold List.map NestedKey.depthAll; omega
  | o :: d => by
    rw [List.map_cons]
    unfold NestedKey.depthAll
    have := depth_oK o
    have := depthAll_map d
    omega
@[simp] theorem tkey_day (d : Day) : tkey (.d (dayD d)) = some (dayK d) := by
  have h : (dayK d).depth ≤ 8 := by
    unfold dayK NestedKey.depth
    have := depthAll_map d
    omega
  have e : keyD (.tup (d.map oD)) = some (dayK d) := by
    unfold keyD
    rw [keyDs_map]; rfl
  unfold dayD tkey
  dsimp only
  rw [e]
  simp [h]
theorem prD_day (p : Pair) : prD p = dayD [some p.1, some p.2] := rfl
theorem prK_day (p : Pair) : prK p = dayK [some p.1, some p.2] := rfl
@[simp] theorem kD_prK (p : Pair) : kD (prK p) = prD p := by rw [prK_day, kD_dayK, prD_day]
@[simp] theorem tkey_pr (p : Pair) : tkey (.d (prD p)) = some (prK p) := by rw [prD_day, tkey_day, prK_day]
@[simp] theorem isTup_day (d : Day) : isTupK (dayK d) = true := rfl
@[simp] theorem isTup_pr (d : Pair) : isTupK (prK d) = true := rfl
theorem eqD_oD : ∀ a b : Option Str, eqD (oD a) (oD b) = decide (a = b)
  | none, none => by simp [oD, eqD]
  | none, some y => by simp [oD, eqD]
  | some x, none => by simp [oD, eqD]
  | some x, some y => by simp [oD, eqD]; rfl
theorem eqDs_oD : ∀ a b : Day, eqDs (a.map oD) (b.map oD) = decide (a = b)
  | [], [] => by simp [eqDs]
  | [], b :: bs => by simp [eqDs]
  | a :: as, [] => by simp [eqDs]
  | a :: as, b :: bs => by simp [eqDs, eqD_oD, eqDs_oD as bs]
@[simp] theorem eqD_day (a b : Day) : eqD (dayD a) (dayD b) = decide (a = b) := by unfold dayD eqD; exact eqDs_oD a b
@[simp] theorem eqD_pr (a b : Pair) : eqD (prD a) (prD b) = decide (a = b) := by
  rw [prD_day, prD_day, eqD_day]
  obtain ⟨a1, a2⟩ := a
  obtain ⟨b1, b2⟩ := b
  simp
theorem toPy_oD (n : Nat) : ∀ o : Option Str, ∃ p, toPy n (oD o) = some p
  | none => ⟨_, by unfold oD toPy; rfl⟩
  | some x => ⟨_, by unfold oD toPy; rfl⟩
theorem mapO_ex {β γ : Type} {f : β → Option γ} : ∀ {l : List β}, (∀ x ∈ l, ∃ y, f x = some y) → ∃ ys, mapO f l = some ys
  | [], _ => ⟨[], rfl⟩
  | x :: xs, h => by
    obtain ⟨y, e⟩ := h x List.mem_cons_self
    obtain ⟨ys, e'⟩ := mapO_ex (fun z hz => h z (List.mem_cons_of_mem _ hz))
    exact ⟨y :: ys, by rw [mapO_cons, e, e']; rfl⟩
@[simp] theorem plain_day (d : Day) (n : Nat) : plainD (n + 1) (dayD d) = true := by
  unfold plainD dayD toPy
  obtain ⟨ys, e⟩ := mapO_ex (f := toPy n) (l := d.map oD) fun x hx => by
    obtain ⟨o, _, rfl⟩ := List.mem_map.mp hx
    exact toPy_oD n o
  rw [e]; rfl
@[simp] theorem plain_pr (p : Pair) (n : Nat) : plainD (n + 1) (prD p) = true := by rw [prD_day]; exact plain_day _ n
@[simp] theorem plain_str (x : Str) (n : Nat) : plainD n (.str x) = true := by unfold plainD toPy; rfl
@[simp] theorem plain_int (x : Int) (n : Nat) : plainD n (.int x) = true := by unfold plainD toPy; rfl
@[simp] theorem plain_non (n : Nat) : plainD n .non = true := by unfold plainD toPy; rfl
@[simp] theorem plain_bl (x : Bool) (n : Nat) : plainD n (.bl x) = true := by unfold plainD toPy; rfl
@[simp] theorem eqD_str (a b : Str) : eqD (.str a) (.str b) = decide (a = b) := by unfold eqD; rfl
@[simp] theorem eqD_int (a b : Int) : eqD (.int a) (.int b) = decide (a = b) := by unfold eqD; rfl
end Mi
set_option Elab.async false
set_option linter.all false
set_option maxRecDepth 100000
set_option maxHeartbeats 4000000
namespace Mi
open PySem PySem.Spec PyProof.Rows L2 He Wl
def Bq (M N : Nat) (q : Rat) : Prop := ∃ n : Int, q = Rat.divInt n M ∧ n.natAbs ≤ N
section
variable {M M' N N' k : Nat} {q r : Rat}
theorem Bq.mono (h : Bq M N q) (l : N ≤ N') : Bq M N' q := let ⟨n, e, b⟩ := h; ⟨n, e, Nat.le_trans b l⟩
theorem Bq.zero : Bq M 0 0 := ⟨0, by simp, by simp⟩
theorem Bq.add (hM : 0 < M) (a : Bq M N q) (b : Bq M N' r) : Bq M (N + N') (q + r) := by
  obtain ⟨n, rfl, h1⟩ := a
  obtain ⟨m, rfl, h2⟩ := b
  have z : (M : Int) ≠ 0 := by omega
  refine ⟨n + m, ?_, by omega⟩
  rw [Rat.divInt_add_divInt _ _ z z, ← Int.add_mul, Rat.divInt_mul_right z]
theorem Bq.sub (hM : 0 < M) (a : Bq M N q) (b : Bq M N' r) : Bq M (N + N') (q - r) := by
  obtain ⟨n, rfl, h1⟩ := a
  obtain ⟨m, rfl, h2⟩ := b
  have z : (M : Int) ≠ 0 := by omega
  refine ⟨n - m, ?_, by omega⟩
  rw [Rat.divInt_sub_divInt _ _ z z, ← Int.sub_mul, Rat.divInt_mul_right z]
theorem Bq.mul (a : Bq M N q) (b : Bq M' N' r) : Bq (M * M') (N * N') (q * r) := by
  obtain ⟨n, rfl, h1⟩ := a
  obtain ⟨m, rfl, h2⟩ := b
  refine ⟨n * m, ?_, ?_⟩
  · rw [Rat.divInt_mul_divInt, Int.natCast_mul]
  · rw [Int.natAbs_mul]; exact Nat.mul_le_mul h1 h2
theorem Bq.int (hM : 0 < M) (i : Int) : Bq M (i.natAbs * M) (i : Rat) := by
  refine ⟨i * M, ?_, by rw [Int.natAbs_mul]; simp⟩
  have z : (M : Int) ≠ 0 := by omega
  have := Rat.divInt_mul_right (n := i) (d := 1) z
  rw [Int.one_mul] at this
  rw [this]
  have := Rat.num_divInt_den (i : Rat)
  simpa using this.symm
theorem Bq.one (hM : 0 < M) : Bq M M 1 := by have := Bq.int (M := M) hM 1; simpa using this
theorem Bq.sz (hM : 0 < M) (h : Bq M N q) (h1 : M < 2 ^ k) (h2 : N < 2 ^ k) : Sz k q := by
  obtain ⟨n, rfl, hn⟩ := h
  have z : (M : Int) ≠ 0 := by omega
  refine ⟨?_, ?_⟩
  · rw [Rat.num_divInt]
    have e : (M : Int).sign = 1 := Int.sign_eq_one_of_pos (by omega)
    rw [e, Int.one_mul]
    exact Nat.lt_of_le_of_lt (Nat.le_trans (Int.natAbs_ediv_le_natAbs _ _) hn) h2
  · rw [Rat.den_divInt, if_neg z]
    exact Nat.lt_of_le_of_lt (Nat.div_le_self _ _) (by simpa using h1)
end
def sumR : List Rat → Rat
  | [] => 0
  | x :: xs => x + sumR xs
@[simp] theorem sumR_nil : sumR [] = 0 := rfl
@[simp] theorem sumR_cons (x : Rat) (xs : List Rat) : sumR (x :: xs) = x + sumR xs := rfl
@[simp] theorem sumR_append : ∀ a b : List Rat, sumR (a ++ b) = sumR a + sumR b
  | [], b => by simp [Rat.zero_add]
  | x :: a, b => by simp [sumR_append a b, Rat.add_assoc]
theorem Bq.sum {M N : Nat} (hM : 0 < M) : ∀ {l : List Rat}, (∀ x ∈ l, Bq M N x) → Bq M (l.length * N) (sumR l)
  | [], _ => by simpa using Bq.zero
  | x :: l, h => by
    have := (h x List.mem_cons_self).add hM (Bq.sum hM fun y hy => h y (List.mem_cons_of_mem _ hy))
    rw [sumR_cons, List.length_cons, Nat.succ_mul, Nat.add_comm]
    exact this
section
variable {cs : List Str}
end
end Mi
set_option Elab.async false
set_option linter.all false
set_option maxRecDepth 100000
set_option maxHeartbeats 4000000
namespace Mi
open PySem PySem.Spec PyProof.Rows L2 He Wl
section
variable {cs : List Str} {S : Sto}
theorem atI_nat {α : Type} {xs : List α} {i : Nat} (h : i < xs.length) : atI xs (i : Int) = xs[i]? := by
  unfold atI ixN
  rw [if_pos (by omega), if_pos (by omega)]
  simp
@[simp] theorem run_ix0 {x : D} {xs : List D} : run qIX [.d (.tup (x :: xs)), .d (.int 0)] S = .ok (.d x) S := by
  simp [run, qIX, orQ, qIx, pure2, seqOf, lstOf, W.items, atI, ixN]
@[simp] theorem run_ix1 {x y : D} {xs : List D} : run qIX [.d (.tup (x :: y :: xs)), .d (.int 1)] S = .ok (.d y) S := by
  have e : atI (W.d x :: W.d y :: xs.map .d) 1 = some (.d y) := by
    exact atI_nat (i := 1) (by simp)
  simp [run, qIX, orQ, qIx, pure2, seqOf, lstOf, W.items, e]
def nmB (s : Str) : Bool := decide (1 ≤ s.length) && (decide (s.length ≤ 8) && s.cps.toList.all fun c => decide (97 ≤ c) && decide (c ≤ 122))
end
end Mi
set_option Elab.async false
set_option linter.all false
set_option maxRecDepth 100000
set_option maxHeartbeats 4000000
namespace Mi
open PySem PySem.Spec PyProof.Rows L2 He Wl
section
variable {cs : List Str} {S : Sto}
section
variable {β : Type} {nm : β → Str} {kd k1 k2 : β → D} {pl : Bool}
end
end
end Mi
set_option Elab.async false
set_option linter.all false
set_option maxRecDepth 100000
set_option maxHeartbeats 4000000
namespace Mi
open PySem PySem.Spec PyProof.Rows L2 He Wl
section
variable {β : Type} {ι : β → W} {g g1 : MG} {t t1 : MT} {e : ME} {mi1 : MA} {vs1 : List Nat} {τ : Sl} {S : Sto}
theorem compL_fm (b : β → Bool) (f : β → D) : ∀ (l : List β) (acc : List D), (∀ x ∈ l, ∃ τ1, g (ι x) τ S = some (τ1, S) ∧ t τ1 S = .ok (b x) S ∧ (b x = true → e τ1 S = .ok (.d (f x)) S)) →
    compL g t e τ (l.map ι) acc S = some (acc ++ (l.filter b).map f, S)
  | [], acc, _ => by unfold List.map compL; simp
  | x :: l, acc, h => by
    obtain ⟨τ1, h1, h2, h3⟩ := h x List.mem_cons_self
    have ih := fun acc => compL_fm b f l acc fun w hw => h w (List.mem_cons_of_mem _ hw)
    rw [List.map_cons]
    unfold compL
    rw [h1]
    dsimp only
    rw [h2]
    cases hb : b x with
    | true =>
      dsimp only
      rw [h3 hb]
      dsimp only
      rw [ih, List.filter_cons_of_pos hb]
      simp
    | false =>
      dsimp only
      rw [ih, List.filter_cons_of_neg (by simp [hb])]
end
theorem zip2W_d : ∀ xs ys : List D, zip2W (xs.map .d) (ys.map .d) = (xs.zip ys).map fun p => .d (.tup [p.1, p.2])
  | [], ys => by cases ys <;> rfl
  | x :: xs, [] => rfl
  | x :: xs, y :: ys => by
    simp only [List.map_cons, zip2W, List.zip_cons_cons, zip2W_d xs ys]
    rfl
theorem z2_eq {mr : MA} {τ : Sl} {S S1 : Sto} {u v : W} {xs ys : List D} (h : mr τ S = .ok [u, v] S) (h1 : seqW S u = some (xs.map .d, S)) (h2 : seqW S v = some (ys.map .d, S1)) : z2M mr τ S = .ok ((xs.zip ys).map fun p => .d (.tup [p.1, p.2])) S1 := by
  unfold z2M
  rw [h]
  simp only [Res.bind_ok, seqWs, h1, h2, zip2W_d]
section
variable {cs : List Str} {S : Sto}
def pairsOf (names : List Str) (day : Day) : List Pair := (names.zip day).filterMap fun p => p.2.map fun k => (p.1, k)
@[simp] theorem run_notN (x : D) : run qNotN [.d x, .d .non] S = .ok (.d (.bl (match x with | .non => false | _ => true))) S := by
  cases x <;> rfl
@[simp] theorem run_isN (x : D) : run qIsN [.d x, .d .non] S = .ok (.d (.bl (match x with | .non => true | _ => false))) S := by
  cases x <;> rfl
theorem pairs_of_fn {names : List Str} {day : Day} (hl : names.length ≤ 1000) : Fn (m_pairs_of cs) [strL names, dayD day] (.lst ((pairsOf names day).map prD)) := by
  have e1 : z2M (aC (vM 0) (aC (vM 1) aN)) [some (.d (strL names)), some (.d (dayD day)), none, none] [] = .ok ((names.zip day).map fun p => W.d (.tup [.str p.1, oD p.2])) [] := by
    rw [z2_eq (u := .d (strL names)) (v := .d (dayD day)) (xs := names.map .str) (ys := day.map oD) (S1 := []) rfl rfl rfl]
    rw [List.zip_map, List.map_map]
    rfl
  have e2 := compL_fm (β := Str × Option Str) (ι := fun p => W.d (.tup [.str p.1, oD p.2])) (g := gT 2 (gsC (gN 2) (gsC (gN 3) gsN))) (t := t_pairs_of_0 cs) (e := e_pairs_of_0 cs) (τ := [some (.d (strL names)), some (.d (dayD day)), none, none]) (S := [])
    (fun p => p.2.isSome) (fun p => .tup [.str p.1, oD p.2]) (names.zip day) [] fun p hp => by
      refine ⟨[some (.d (strL names)), some (.d (dayD day)), some (.d (.str p.1)), some (.d (oD p.2))], rfl, ?_, fun _ => ?_⟩
      · obtain ⟨n, k⟩ := p
        cases k <;> simp [t_pairs_of_0, defM, seqS, rtS, asS, ifS, exS, tsM, ntM, anM, orM, byM, ifM, callM, apM, aC, aN, vM, cM, tpM, prM, sltM, sltK, ratAt, gT, gsC, gsN, gN, oM, uM, msM, Res.out, W.items, oD]
      · simp [e_pairs_of_0, defM, seqS, rtS, asS, ifS, exS, tsM, ntM, anM, orM, byM, ifM, callM, apM, aC, aN, vM, cM, tpM, prM, sltM, sltK, ratAt, gT, gsC, gsN, gN, oM, uM, msM, Res.out, W.items, mkT, onlyD]
  have e3 : ((names.zip day).filter fun p => p.2.isSome).map (fun p => D.tup [.str p.1, oD p.2]) = (pairsOf names day).map prD := by
    unfold pairsOf
    induction names.zip day with
    | nil => rfl
    | cons p l ih =>
      obtain ⟨n, k⟩ := p
      cases k with
      | none => simpa using ih
      | some k => simpa [prD, oD] using ih
  have hlen : (names.zip day).length ≤ 1000000 := by rw [List.length_zip]; omega
  refine Fn.mk (S := []) ?_
  simp only [List.map_cons, List.map_nil, m_pairs_of, defM, List.length_cons, List.length_nil, if_true, List.replicate, List.cons_append, List.nil_append, rtS, lcM, e1, Res.bind_ok, List.length_map, hlen, wipeT, List.set_cons_succ, List.set_cons_zero, e2, compEnd, Bool.false_eq_true, if_false, Res.out_ok, e3]
def kindsD (kinds : List (List Str)) : D := .lst (kinds.map strL)
end
end Mi
set_option Elab.async false
set_option linter.all false
set_option maxRecDepth 100000
set_option maxHeartbeats 4000000
namespace Mi
open PySem PySem.Spec PyProof.Rows L2 He Wl
section
variable {cs : List Str} {S : Sto}
abbrev Fac := Option Str × List Str × List Rat
theorem run_ixN {xs : List D} {j : Nat} {x : D} (h : xs[j]? = some x) : run qIX [.d (.lst xs), .d (.int (j : Nat))] S = .ok (.d x) S := by
  have hj := (List.getElem?_eq_some_iff.mp h).1
  have e : atI (xs.map W.d) (j : Int) = some (.d x) := by
    rw [atI_nat (by simpa using hj), List.getElem?_map, h]; rfl
  simp [run, qIX, orQ, qIx, pure2, seqOf, lstOf, e]
structure FacOk (M N : Nat) (p : Fac) : Prop where
  len : p.2.1.length = p.2.2.length
  four : p.2.2.length ≤ 4
  bq : ∀ q ∈ p.2.2, Bq M N q
  mem : ∀ x, p.1 = some x → x ∈ p.2.1
structure ProdOk (M N : Nat) (day : Day) (kinds : List (List Str)) (chs : List (List Rat)) : Prop where
  hM : 0 < M
  hB : (M + 5 * N) ^ 4 < 2 ^ 4000
  four : day.length ≤ 4
  ok : ∀ p ∈ day.zip (kinds.zip chs), FacOk M N p
def pairsAll (names : List Str) (kinds : List (List Str)) : List Pair := (names.zip kinds).flatMap fun p => p.2.map fun k => (p.1, k)
structure IsH (S : Sto) (w : W) (fs : List Str) (ws : List W) : Prop where
  inst : w.inst S = some (("House" : Str), fs, ws)
theorem fd_eq {o : ME} {τ : Sl} {w u : W} {c fn : Str} {fs : List Str} {ws : List W} (ho : o τ S = .ok w S) (hi : w.inst S = some (c, fs, ws)) (hf : fldAt fn fs ws = some u) : fdM c fn o τ S = .ok u S := by
  simp [fdM, ho, hi, hf]
end
end Mi
set_option Elab.async false
set_option linter.all false
set_option maxRecDepth 100000
set_option maxHeartbeats 4000000
namespace Mi
open PySem PySem.Spec PyProof.Rows L2 He Wl
section
variable {cs : List Str} {S : Sto}
section
variable {α : Type} {κ : α → NK}
theorem dAt_map {β : Type} (inj : ∀ a b, κ a = κ b → a = b) (f : α → β) {x : α} : ∀ {l : List α}, x ∈ l → dAt (l.map κ) (l.map f) (κ x) = some (f x)
  | [], h => nomatch h
  | y :: l, h => by
    simp only [List.map_cons, dAt]
    by_cases e : κ y = κ x
    · rw [if_pos e, inj _ _ e]
    · rw [if_neg e]
      rcases List.mem_cons.mp h with h | h
      · exact absurd (by rw [h]) e
      · exact dAt_map inj f h
theorem dRep_mp {β : Type} [DecidableEq α] (inj : ∀ a b, κ a = κ b → a = b) (f : α → β) (x : α) (v : β) : ∀ l : List α, dRep (l.map κ) (l.map f) (κ x) v = l.map fun y => if y = x then v else f y
  | [] => rfl
  | y :: l => by
    simp only [List.map_cons, dRep, dRep_mp inj f x v l]
    by_cases e : y = x
    · subst e; simp
    · rw [if_neg (fun h => e (inj _ _ h)), if_neg e]
theorem contains_map (inj : ∀ a b, κ a = κ b → a = b) (x : α) (l : List α) : (l.map κ).contains (κ x) = true ↔ x ∈ l := by
  rw [List.contains_iff_mem, List.mem_map]
  constructor
  · rintro ⟨y, hy, e⟩
    exact inj _ _ e ▸ hy
  · exact fun h => ⟨x, h, rfl⟩
end
abbrev PF := Pair → Rat
def cD (pairs : List Pair) (cv : PF) : List D := pairs.map fun p => .rat (cv p)
theorem all_pr (pairs : List Pair) : (pairs.map prK).all isTupK = true := by
  rw [List.all_eq_true]
  intro y hy
  obtain ⟨z, _, rfl⟩ := List.mem_map.mp hy
  rfl
theorem run_ixP {w : W} {pairs : List Pair} {f : Pair → D} {p : Pair} (h : dctOf S w = some (pairs.map prK, (pairs.map f).map .d)) (hp : p ∈ pairs) : run qIX [w, .d (prD p)] S = .ok (.d (f p)) S := by
  have e1 : qIx S [w, .d (prD p)] = none := by unfold qIx pure2 prD; rfl
  have e2 : dAt (pairs.map prK) ((pairs.map f).map W.d) (prK p) = some (.d (f p)) := by
    rw [List.map_map]
    exact dAt_map (fun _ _ => prK_inj) _ hp
  have e3 : qIxD S [w, .d (prD p)] = some (.d (f p), S) := by
    unfold qIxD pure2
    simp only [h, tkey_pr, all_pr, if_true, e2, Option.map_some]
  simp only [run, qIX, orQ, e1, e3]
def addEv (cv : PF) (e : Pair × Rat) : PF := fun x => if x = e.1 then cv x + e.2 else cv x
def addEvs (evs : List (Pair × Rat)) (cv : PF) : PF := evs.foldl addEv cv
def kS (fs : List Str) (ws : List W) (pairs : List Pair) (cv : PF) : Sto := [.ins "House" fs ws, .dct (pairs.map prK) ((cD pairs cv).map .d)]
theorem keep_step {a b c : Option W} {fs : List Str} {ws : List W} {pairs : List Pair} {cv : PF} {p : Pair} {q : Rat} (hc : fldAt "own_chances" fs ws = some (.loc 1)) (hp : p ∈ pairs) (hl : pairs.length < 1000000) (h1 : Sz 4000 (cv p)) (h2 : Sz 4000 q) :
    b_House_keep_0 cs [some (.loc 0), a, b, some (.d (.rat q)), some (.d (prD p))] (kS fs ws pairs cv) = .nx [some (.loc 0), a, b, some (.d (.rat q)), some (.d (prD p))] (kS fs ws pairs (addEv cv (p, q))) := by
  have f1 := fd_eq (o := vM 0) (τ := [some (.loc 0), a, b, some (.d (.rat q)), some (.d (prD p))]) (S := kS fs ws pairs cv) (w := .loc 0) (c := "House") (fn := "own_chances") (fs := fs) (ws := ws) rfl rfl hc
  have e1 : run qIX [.loc 1, .d (prD p)] (kS fs ws pairs cv) = .ok (.d (.rat (cv p))) (kS fs ws pairs cv) := run_ixP (f := fun p => .rat (cv p)) rfl hp
  have e2 : run (qOf gR2 (m_Ratio___add__ cs)) [.d (.rat (cv p)), .d (.rat q)] (kS fs ws pairs cv) = .ok (.d (.rat (cv p + q))) (kS fs ws pairs cv) := run_addR rfl h1 h2
  have hct : (pairs.map prK).contains (prK p) = true := (contains_map (fun _ _ => prK_inj) p pairs).mpr hp
  have e3 : qSET (kS fs ws pairs cv) (.loc 1) (.d (prD p)) (.d (.rat (cv p + q))) = some (kS fs ws pairs (addEv cv (p, q))) := by
    have n1 : qSetL (kS fs ws pairs cv) (.loc 1) (.d (prD p)) (.d (.rat (cv p + q))) = none := by unfold qSetL prD; rfl
    have hlc : locD (kS fs ws pairs cv) (.loc 1) = some (1, pairs.map prK, (cD pairs cv).map .d) := rfl
    have hd : dRep (pairs.map prK) ((cD pairs cv).map W.d) (prK p) (W.d (.rat (cv p + q))) = (cD pairs (addEv cv (p, q))).map .d := by
      unfold cD
      rw [List.map_map, dRep_mp (fun _ _ => prK_inj), List.map_map]
      refine List.map_congr_left fun y _ => ?_
      simp only [Function.comp, addEv]
      by_cases h : y = p
      · subst h; simp
      · simp [h]
    unfold qSET orS
    rw [n1]
    simp only [qSetD, hlc, tkey_pr, all_pr, List.length_map, hl, decide_true, Bool.and_true, if_true, putKs, putVs, hct, hd]
    rfl
  simp only [b_House_keep_0, asS, oM, f1, vM_ap, List.getElem?_cons_succ, List.getElem?_cons_zero, Res.bind_ok, e1, e2, Res.out_ok, gS, e3, Option.map_some]
theorem addEvs_app (a b : List (Pair × Rat)) (cv : PF) : addEvs (a ++ b) cv = addEvs b (addEvs a cv) := by unfold addEvs; rw [List.foldl_append]
theorem addEv_bq {M N k : Nat} {cv : PF} {p : Pair} {q : Rat} (hM : 0 < M) (h : ∀ x, Bq M (k * N) (cv x)) (hq : Bq M N q) (x : Pair) : Bq M ((k + 1) * N) (addEv cv (p, q) x) := by
  unfold addEv
  rw [Nat.succ_mul]
  split
  · exact (h x).add hM hq
  · exact (h x).mono (by omega)
theorem keep_inner {a b : Option W} {fs : List Str} {ws : List W} {pairs : List Pair} {q : Rat} {M N : Nat} (hM : 0 < M) (bM : M < 2 ^ 4000) (hq : Bq M N q) (hc : fldAt "own_chances" fs ws = some (.loc 1)) (hl : pairs.length < 1000000) :
    ∀ (l : List Pair) (cv : PF) (k : Nat) (z : Option W), (∀ p ∈ l, p ∈ pairs) → (∀ x, Bq M (k * N) (cv x)) → (k + l.length + 1) * N < 2 ^ 4000 →
    (∀ x, Bq M ((k + l.length) * N) (addEvs (l.map fun p => (p, q)) cv x)) ∧ ∃ z', loopS (gN 4) (b_House_keep_0 cs) (l.map fun p => .d (prD p)) [some (.loc 0), a, b, some (.d (.rat q)), z] (kS fs ws pairs cv) = .nx [some (.loc 0), a, b, some (.d (.rat q)), z'] (kS fs ws pairs (addEvs (l.map fun p => (p, q)) cv))
  | [], cv, k, z, _, h, _ => ⟨h, z, rfl⟩
  | p :: l, cv, k, z, hp, h, hk => by
    rw [List.length_cons] at hk
    have hN : N < 2 ^ 4000 := by
      have : 1 * N ≤ (k + (l.length + 1) + 1) * N := Nat.mul_le_mul_right _ (by omega)
      omega
    have hkN : k * N < 2 ^ 4000 := by
      have : k * N ≤ (k + (l.length + 1) + 1) * N := Nat.mul_le_mul_right _ (by omega)
      omega
    obtain ⟨hb, z', ih⟩ := keep_inner (a := a) (b := b) hM bM hq hc hl l (addEv cv (p, q)) (k + 1) (some (.d (prD p))) (fun x hx => hp x (List.mem_cons_of_mem _ hx)) (addEv_bq hM h hq) (by rw [show k + 1 + l.length + 1 = k + (l.length + 1) + 1 by omega]; exact hk)
    refine ⟨fun x => ?_, z', ?_⟩
    · rw [List.length_cons, show k + (l.length + 1) = k + 1 + l.length by omega]
      exact hb x
    · rw [List.map_cons, loop_step (τ1 := [some (.loc 0), a, b, some (.d (.rat q)), some (.d (prD p))]) rfl (keep_step (c := none) hc (hp p List.mem_cons_self) hl ((h p).sz hM bM hkN) (hq.sz hM bM hN)), ih]
      rfl
def evsOf (names : List Str) (ds : List (Day × Rat)) : List (Pair × Rat) := ds.flatMap fun d => (pairsOf names d.1).map fun p => (p, d.2)
theorem pairsOf_len (names : List Str) (day : Day) : (pairsOf names day).length ≤ names.length := by
  unfold pairsOf
  refine Nat.le_trans (List.length_filterMap_le _ _) ?_
  rw [List.length_zip]
  omega
def dqD (p : Day × Rat) : D := .tup [dayD p.1, .rat p.2]
theorem keep_outer {a : Option W} {fs : List Str} {ws : List W} {pairs : List Pair} {names : List Str} {M N : Nat} (hM : 0 < M) (bM : M < 2 ^ 4000) (hn : fldAt "own_names" fs ws = some (.d (strL names))) (h4 : names.length ≤ 4) (hc : fldAt "own_chances" fs ws = some (.loc 1)) (hl : pairs.length < 1000000) :
    ∀ (ds : List (Day × Rat)) (cv : PF) (k : Nat) (z1 z2 z3 : Option W), (∀ d ∈ ds, Bq M N d.2 ∧ ∀ p ∈ pairsOf names d.1, p ∈ pairs) → (∀ x, Bq M (k * N) (cv x)) → (k + 4 * ds.length + 1) * N < 2 ^ 4000 →
    (∀ x, Bq M ((k + 4 * ds.length) * N) (addEvs (evsOf names ds) cv x)) ∧ ∃ z1' z2' z3', loopS (gT 2 (gsC (gN 2) (gsC (gN 3) gsN))) (b_House_keep_1 cs) (ds.map fun d => .d (dqD d)) [some (.loc 0), a, z1, z2, z3] (kS fs ws pairs cv) = .nx [some (.loc 0), a, z1', z2', z3'] (kS fs ws pairs (addEvs (evsOf names ds) cv))
  | [], cv, k, z1, z2, z3, _, h, _ => ⟨h, z1, z2, z3, rfl⟩
  | d :: ds, cv, k, z1, z2, z3, hd, h, hk => by
    obtain ⟨bq, hp⟩ := hd d List.mem_cons_self
    rw [List.length_cons] at hk
    have hpl : (pairsOf names d.1).length ≤ 4 := Nat.le_trans (pairsOf_len _ _) h4
    obtain ⟨hb, z', e1⟩ := keep_inner (cs := cs) (a := a) (b := some (.d (dayD d.1))) (fs := fs) (ws := ws) hM bM bq hc hl (pairsOf names d.1) cv k z3 hp h (Nat.lt_of_le_of_lt (Nat.mul_le_mul_right _ (by omega)) hk)
    obtain ⟨hb2, z1', z2', z3', ih⟩ := keep_outer (a := a) hM bM hn h4 hc hl ds (addEvs ((pairsOf names d.1).map fun p => (p, d.2)) cv) (k + 4) (some (.d (dayD d.1))) (some (.d (.rat d.2))) z' (fun x hx => hd x (List.mem_cons_of_mem _ hx)) (fun x => (hb x).mono (Nat.mul_le_mul_right _ (by omega))) (Nat.lt_of_le_of_lt (Nat.mul_le_mul_right _ (by omega)) hk)
    have ee : evsOf names (d :: ds) = ((pairsOf names d.1).map fun p => (p, d.2)) ++ evsOf names ds := by unfold evsOf; rw [List.flatMap_cons]
    refine ⟨fun x => ?_, z1', z2', z3', ?_⟩
    · rw [ee, addEvs_app, List.length_cons, show k + 4 * (ds.length + 1) = k + 4 + 4 * ds.length by omega]
      exact hb2 x
    · have hbd : b_House_keep_1 cs [some (.loc 0), a, some (.d (dayD d.1)), some (.d (.rat d.2)), z3] (kS fs ws pairs cv) = .nx [some (.loc 0), a, some (.d (dayD d.1)), some (.d (.rat d.2)), z'] (kS fs ws pairs (addEvs ((pairsOf names d.1).map fun p => (p, d.2)) cv)) := by
        have f1 := fd_eq (o := vM 0) (τ := [some (.loc 0), a, some (.d (dayD d.1)), some (.d (.rat d.2)), z3]) (S := kS fs ws pairs cv) (w := .loc 0) (c := "House") (fn := "own_names") (fs := fs) (ws := ws) rfl rfl hn
        have c1 : callP (m_pairs_of cs) [.d (strL names), .d (dayD d.1)] (kS fs ws pairs cv) = .ok (.d (.lst ((pairsOf names d.1).map prD))) (kS fs ws pairs cv) := (pairs_of_fn (by omega)).c2
        have s1 : seqW (kS fs ws pairs cv) (.d (.lst ((pairsOf names d.1).map prD))) = some ((pairsOf names d.1).map fun p => .d (prD p), kS fs ws pairs cv) := by
          simp [seqW, Function.comp_def]
        simp only [b_House_keep_1, foS, itM, apM, aC, f1, vM_ap, aN, List.getElem?_cons_succ, List.getElem?_cons_zero, Res.bind_ok, c1, s1, Res.out_ok, e1]
      rw [List.map_cons, loop_step (τ1 := [some (.loc 0), a, some (.d (dayD d.1)), some (.d (.rat d.2)), z3]) rfl hbd, ih, ee, addEvs_app]
end
end Mi
set_option Elab.async false
set_option linter.all false
set_option maxRecDepth 100000
set_option maxHeartbeats 4000000
namespace Mi
open PySem PySem.Spec PyProof.Rows L2 He Wl
section
variable {cs : List Str} {S : Sto}
end
end Mi
set_option Elab.async false
set_option linter.all false
set_option maxRecDepth 100000
set_option maxHeartbeats 4000000
namespace Mi
open PySem PySem.Spec PyProof.Rows L2 He Wl
section
variable {cs : List Str} {S : Sto} {fs : List Str} {ws : List W} {pairs : List Pair} {cv : PF} {names : List Str} {kinds : List (List Str)}
def hS (fs : List Str) (ws : List W) (pairs : List Pair) (cv : PF) (o : O) : Sto := [.ins "House" fs ws, .fz (.dct (pairs.map prK) (cD pairs cv)), o]
structure Mid (fs : List Str) (ws : List W) (pairs : List Pair) (cv : PF) (names : List Str) (kinds : List (List Str)) : Prop where
  hn : fldAt "own_names" fs ws = some (.d (strL names))
  hk : fldAt "own_kinds" fs ws = some (.d (kindsD kinds))
  hc : fldAt "own_chances" fs ws = some (.loc 1)
  hp : ∀ p ∈ names.zip kinds, ∀ k ∈ p.2, (p.1, k) ∈ pairs
  h4 : names.length ≤ 4
  r4 : ∀ row ∈ kinds, row.length ≤ 4
  up : O.upto 2 (.ins "House" fs ws) = true
mutual
theorem uptoW_mono {n m : Nat} (h : n ≤ m) : ∀ {w : W}, uptoW n w = true → uptoW m w = true
  | .d x, _ => by simp
  | .loc k, e => by unfold uptoW at e ⊢; simp at e ⊢; omega
  | .tup ws, e => by unfold uptoW at e ⊢; exact uptoWs_mono h e
theorem uptoWs_mono {n m : Nat} (h : n ≤ m) : ∀ {ws : List W}, uptoWs n ws = true → uptoWs m ws = true
  | [], _ => by unfold uptoWs; rfl
  | w :: ws, e => by
    unfold uptoWs at e ⊢
    rw [Bool.and_eq_true] at e ⊢
    exact ⟨uptoW_mono h e.1, uptoWs_mono h e.2⟩
end
theorem upto_mono {n m : Nat} {o : O} (h : n ≤ m) (e : o.upto n = true) : o.upto m = true := by
  cases o with
  | fz x => rfl
  | _ => exact uptoWs_mono h e
theorem Mid.fd (o : O) {fn : Str} {u : W} (h : fldAt fn fs ws = some u) {τ : Sl} (hτ : τ[0]? = some (some (.loc 0))) : fdM "House" fn (vM 0) τ (hS fs ws pairs cv o) = .ok u (hS fs ws pairs cv o) :=
  fd_eq (w := .loc 0) (fs := fs) (ws := ws) (by rw [vM_ap, hτ]) rfl h
end
end Mi
set_option Elab.async false
set_option linter.all false
set_option maxRecDepth 100000
set_option maxHeartbeats 4000000
namespace Mi
open PySem PySem.Spec PyProof.Rows L2 He Wl
section
variable {cs : List Str} {S : Sto} {fs : List Str} {ws : List W} {pairs : List Pair} {cv : PF} {names : List Str} {kinds : List (List Str)} {free : Bool}
structure Mid2 (fs : List Str) (ws : List W) (pairs : List Pair) (cv : PF) (names : List Str) (kinds : List (List Str)) (free : Bool) : Prop extends Mid fs ws pairs cv names kinds where
  hf : fldAt "free" fs ws = some (.d (.bl free))
  nl : ∀ n ∈ names, n.length ≤ 8
  kl : ∀ row ∈ kinds, ∀ k ∈ row, k.length ≤ 8
  sz : ∀ x, Sz 1900 (cv x)
end
end Mi
set_option Elab.async false
set_option linter.all false
set_option maxRecDepth 100000
set_option maxHeartbeats 4000000
namespace Mi
open PySem PySem.Spec PyProof.Rows L2 He Wl
section
variable {f g : Str} {w : W}
end
def DayOk : List (List Str) → Day → Prop
  | [], [] => True
  | row :: ks, o :: d => (∀ k, o = some k → k ∈ row) ∧ DayOk ks d
  | _, _ => False
theorem DayOk.len : ∀ {ks : List (List Str)} {d : Day}, DayOk ks d → d.length = ks.length
  | [], [], _ => rfl
  | row :: ks, o :: d, h => by simp [DayOk.len h.2]
  | [], _ :: _, h => h.elim
  | _ :: _, [], h => h.elim
theorem DayOk.mem : ∀ {ks : List (List Str)} {d : Day}, DayOk ks d → ∀ p ∈ d.zip ks, ∀ k, p.1 = some k → k ∈ p.2
  | [], [], _, p, hp => by simp at hp
  | row :: ks, o :: d, h, p, hp => by
    rw [List.zip_cons_cons] at hp
    rcases List.mem_cons.mp hp with rfl | hp
    · exact h.1
    · exact DayOk.mem h.2 p hp
  | [], _ :: _, h, _, _ => h.elim
  | _ :: _, [], h, _, _ => h.elim
theorem DayOk.pairs : ∀ {names : List Str} {ks : List (List Str)} {d : Day}, DayOk ks d → ∀ p ∈ pairsOf names d, p ∈ pairsAll names ks
  | [], ks, d, h, p, hp => by simp [pairsOf] at hp
  | n :: ns, [], [], h, p, hp => by simp [pairsOf] at hp
  | n :: ns, row :: ks, o :: d, h, p, hp => by
    unfold pairsOf at hp
    rw [List.zip_cons_cons, List.filterMap_cons] at hp
    unfold pairsAll
    rw [List.zip_cons_cons, List.flatMap_cons, List.mem_append]
    have ih := fun q => DayOk.pairs (names := ns) h.2 q
    cases o with
    | none =>
      simp only [Option.map_none] at hp
      exact .inr (ih p hp)
    | some k =>
      simp only [Option.map_some] at hp
      rcases List.mem_cons.mp hp with rfl | hp
      · exact .inl (List.mem_map.mpr ⟨k, h.1 k rfl, rfl⟩)
      · exact .inr (ih p hp)
  | n :: ns, [], _ :: _, h, p, hp => h.elim
  | n :: ns, _ :: _, [], h, p, hp => h.elim
def posDays (t : List (Day × Rat)) : List (Day × Rat) := t.filter fun p => decide (0 < p.2)
def cvOf (names : List Str) (t : List (Day × Rat)) : PF := addEvs (evsOf names (posDays t)) fun _ => 0
structure HIn (M N : Nat) (names : List Str) (kinds : List (List Str)) (t : List (Day × Rat)) : Prop where
  nd : (pairsAll names kinds).Nodup
  n4 : names.length ≤ 4
  r4 : ∀ row ∈ kinds, row.length ≤ 4
  k4 : kinds.length ≤ 4
  nl : ∀ n ∈ names, n.length ≤ 8
  kl : ∀ row ∈ kinds, ∀ k ∈ row, k.length ≤ 8
  hM : 0 < M
  bM : M < 2 ^ 800
  bN : N < 2 ^ 800
  tb : ∀ p ∈ t, Bq M N p.2 ∧ DayOk kinds p.1
  tl : t.length ≤ 625
theorem big800 {a k c : Nat} (h : a < 2 ^ 800) (hc : c ≤ 2 ^ 20) (hk : 820 ≤ k) : c * a < 2 ^ k := by
  have e : (2 : Nat) ^ 820 = 2 ^ 20 * 2 ^ 800 := by rw [← Nat.pow_add]
  calc c * a ≤ 2 ^ 20 * a := Nat.mul_le_mul_right _ hc
    _ < 2 ^ 20 * 2 ^ 800 := Nat.mul_lt_mul_of_pos_left h (Nat.pow_pos (by decide))
    _ = 2 ^ 820 := e.symm
    _ ≤ 2 ^ k := Nat.pow_le_pow_right (by decide) hk
theorem HIn.mM {M N k : Nat} {names : List Str} {kinds : List (List Str)} {t : List (Day × Rat)} (h : HIn M N names kinds t) (hk : 820 ≤ k) : M < 2 ^ k := by
  have := big800 (c := 1) h.bM (by decide) hk
  omega
theorem HIn.pos {M N : Nat} {names : List Str} {kinds : List (List Str)} {t : List (Day × Rat)} (h : HIn M N names kinds t) : ∀ p ∈ posDays t, p ∈ t := fun p hp => (List.mem_filter.mp hp).1
theorem HIn.pl {M N : Nat} {names : List Str} {kinds : List (List Str)} {t : List (Day × Rat)} (h : HIn M N names kinds t) : (posDays t).length ≤ 625 := Nat.le_trans (List.length_filter_le _ _) h.tl
theorem flat_len {α β : Type} {k : Nat} (f : α → List β) : ∀ l : List α, (∀ x ∈ l, (f x).length ≤ k) → (l.flatMap f).length ≤ l.length * k
  | [], _ => by simp
  | x :: l, h => by
    rw [List.flatMap_cons, List.length_append, List.length_cons, Nat.succ_mul]
    have := h x List.mem_cons_self
    have := flat_len f l fun y hy => h y (List.mem_cons_of_mem _ hy)
    omega
theorem HIn.pal {M N : Nat} {names : List Str} {kinds : List (List Str)} {t : List (Day × Rat)} (h : HIn M N names kinds t) : (pairsAll names kinds).length ≤ 16 := by
  unfold pairsAll
  have := flat_len (k := 4) (fun p : Str × List Str => p.2.map fun k => (p.1, k)) (names.zip kinds) fun p hp => by
    rw [List.length_map]
    exact h.r4 p.2 (List.of_mem_zip hp).2
  have h2 : (names.zip kinds).length ≤ 4 := by rw [List.length_zip]; have := h.n4; omega
  omega
theorem HIn.cv {M N : Nat} {names : List Str} {kinds : List (List Str)} {t : List (Day × Rat)} (h : HIn M N names kinds t) (x : Pair) : Bq M (2500 * N) (cvOf names t x) := by
  have k1 := (keep_outer (cs := []) (a := none) (fs := ["own_names", "own_chances"]) (ws := [.d (strL names), .loc 1]) (pairs := pairsAll names kinds) (names := names) (M := M) (N := N) h.hM (h.mM (by decide)) (by simp [fldAt]) h.n4 (by
    have : ¬ (Str.ofString "own_chances" = Str.ofString "own_names") := by decide +kernel
    simp [fldAt, this]) (by have := h.pal; omega) (posDays t) (fun _ => 0) 0 none none none (fun d hd => ⟨(h.tb d (h.pos d hd)).1, (h.tb d (h.pos d hd)).2.pairs⟩) (fun x => by simpa using Bq.zero) (by
      have := h.pl
      have h2 := big800 (c := 2501) (k := 4000) h.bN (by decide) (by decide)
      have h3 : (0 + 4 * (posDays t).length + 1) * N ≤ 2501 * N := Nat.mul_le_mul_right _ (by omega)
      omega)).1 x
  exact k1.mono (Nat.mul_le_mul_right _ (by have := h.pl; omega))
end Mi
set_option Elab.async false
set_option linter.all false
set_option maxRecDepth 100000
set_option maxHeartbeats 4000000
namespace Mi
open PySem PySem.Spec PyProof.Rows L2 He Wl
section
variable {cs : List Str}
end
end Mi
set_option Elab.async false
set_option linter.all false
set_option maxRecDepth 100000
set_option maxHeartbeats 4000000
namespace Mi
open PySem PySem.Spec PyProof.Rows L2 He Wl
section
variable {cs : List Str} {S : Sto}
def F2 : List Str := ["own_names", "own_kinds"]
end
end Mi
set_option Elab.async false
set_option linter.all false
set_option maxRecDepth 100000
set_option maxHeartbeats 4000000
namespace Mi
open PySem PySem.Spec PyProof.Rows L2 He Wl
section
variable {cs : List Str} {S : Sto}
end
end Mi
set_option Elab.async false
set_option linter.all false
set_option maxRecDepth 100000
set_option maxHeartbeats 4000000
namespace Mi
open PySem PySem.Spec PyProof.Rows L2 He Wl
section
variable {cs : List Str} {S : Sto}
end
end Mi
set_option Elab.async false
set_option linter.all false
set_option maxRecDepth 100000
set_option maxHeartbeats 4000000
namespace Mi
open PySem PySem.Spec PyProof.Rows L2 He Wl
section
variable {cs : List Str} {S : Sto}
structure Rows (names : List Str) (kinds : List (List Str)) : Prop where
  len : names.length = kinds.length
  n1 : 1 ≤ names.length
  n4 : names.length ≤ 4
  nd : names.Nodup
  nm : ∀ n ∈ names, nmB n = true
  k1 : ∀ row ∈ kinds, 1 ≤ row.length
  k4 : ∀ row ∈ kinds, row.length ≤ 4
  knd : ∀ row ∈ kinds, row.Nodup
  km : ∀ row ∈ kinds, ∀ k ∈ row, nmB k = true
end
end Mi
set_option Elab.async false
set_option linter.all false
set_option maxRecDepth 100000
set_option maxHeartbeats 4000000
namespace Mi
open PySem PySem.Spec PyProof.Rows L2 He Wl
section
variable {cs : List Str} {S : Sto}
end
end Mi
set_option Elab.async false
set_option linter.all false
set_option maxRecDepth 100000
set_option maxHeartbeats 4000000
namespace Mi
open PySem PySem.Spec PyProof.Rows L2 He Wl
section
variable {cs : List Str} {S : Sto} {names : List Str} {kinds : List (List Str)} {t : List (Day × Rat)}
def Up (S : Sto) : Prop := S.all (O.upto S.length) = true
theorem Up.nil : Up [] := rfl
theorem Up.app {S : Sto} {o : O} (h : Up S) (ho : O.upto (S.length + 1) o = true) : Up (S ++ [o]) := by
  unfold Up at *
  rw [List.all_append, List.length_append, Bool.and_eq_true]
  refine ⟨List.all_eq_true.mpr fun x hx => upto_mono (by simp) (List.all_eq_true.mp h x hx), ?_⟩
  simp only [List.all_cons, List.all_nil, Bool.and_true, List.length_cons, List.length_nil]
  exact ho
theorem Up.set {S : Sto} {n : Nat} {o : O} (h : Up S) (ho : O.upto S.length o = true) : Up (S.set n o) := by
  unfold Up at *
  rw [List.length_set]
  refine List.all_eq_true.mpr fun x hx => ?_
  rcases List.mem_or_eq_of_mem_set hx with hx | rfl
  · exact List.all_eq_true.mp h x hx
  · exact ho
inductive ItOk (cs : List Str) (S : Sto) : W → Prop
  | pr (p : Pair) : ItOk cs S (.d (prD p))
  | tup (xs : List D) (h : ∀ p, D.tup xs ≠ prD p) (tg : ∀ y ∈ xs, ∃ t, tgD y = some t ∧ okT cs t = true) (pl : plainD 8 (.tup xs) = true) (len : xs.length ≤ 1000) : ItOk cs S (.d (.tup xs))
  | oth (w : W) (t : Tg) (e : tgW S w = some t) (ok : okT cs t = true) (n : isT t (.b "tuple") = false) : ItOk cs S w
end
end Mi
set_option Elab.async false
set_option linter.all false
set_option maxRecDepth 100000
set_option maxHeartbeats 4000000
namespace Mi
open PySem PySem.Spec PyProof.Rows L2 He Wl
abbrev xoHW (cs : List Str) : D → D → Bool := fun a b => (xoC "House" (m_House___eq__ cs) a b || xoC "Wish" (m_Wish___eq__ cs) a b) || xoD a b
def m__law_cell (cs : List Str) : MF := defM 2 0 (seqS (ifS (tsM (oM qLT (vM 1) (callM qLEN (aC (vM 0) aN)))) (rtS (oM qIX (vM 0) (vM 1))) ((fun τ S => .nx τ S))) (rtS (oM qADD (oM qMUL (cM (.int 15530881)) (vM 1)) (cM (.int 2989)))))
def m__law_box (cs : List Str) : MF := defM 1 0 (rtS (loM (aC (callM qMax2 (aC (cM (.int 0)) (aC (oM qSubI (vM 0) (oM qPowI (cM (.int 10)) (cM (.int 18)))) aN))) (aC (oM qModI (vM 0) (cM (.int 2147483629))) (aC (cM (.int 0)) aN)))))
def m__law_take (cs : List Str) : MF := defM 2 2 (seqS (ifS (tsM (oM qGtI (oM qIX (vM 0) (cM (.int 0))) (cM (.int 0)))) (seqS (asS (oM qModI (oM qIX (vM 0) (cM (.int 0))) (vM 1)) (gN 2)) (seqS (asS (oM qDivI (oM qIX (vM 0) (cM (.int 0))) (vM 1)) (gS qSET (vM 0) (cM (.int 0)))) (rtS (vM 2)))) ((fun τ S => .nx τ S))) (seqS (asS (oM qADD (oM qIX (vM 0) (cM (.int 2))) (cM (.int 1))) (gS qSET (vM 0) (cM (.int 2)))) (seqS (asS (oM qModI (oM qPowI (oM qADD (oM qADD (oM qIX (vM 0) (cM (.int 1))) (oM qMUL (cM (.int 15530881)) (oM qIX (vM 0) (cM (.int 2))))) (cM (.int 2989))) (cM (.int 5))) (cM (.int 2147483647))) (gN 3)) (seqS (asS (oM qModI (oM qPowI (oM qADD (vM 3) (oM qMUL (cM (.int 104711)) (oM qIX (vM 0) (cM (.int 2))))) (cM (.int 3))) (cM (.int 2147483587))) (gN 3)) (rtS (oM qModI (oM qDivI (vM 3) (cM (.int 32))) (vM 1)))))))
def m__law_asked (cs : List Str) : MF := defM 4 0 (ifS (tsM (oM qEq (vM 0) (cM (.int 0)))) (exS (apM (callP (m_fall cs)) (aC (vM 1) (aC (vM 2) aN)))) (ifS (tsM (oM qEq (vM 0) (cM (.int 1)))) (exS (apM (callP (m_are_fair cs)) (aC (vM 1) (aC (vM 2) (aC (vM 3) aN))))) (ifS (tsM (oM qEq (vM 0) (cM (.int 2)))) (exS (apM (callP (m_lies cs)) (aC (vM 1) (aC (vM 2) (aC (vM 3) aN))))) (ifS (tsM (oM qEq (vM 0) (cM (.int 3)))) (exS (apM (callP (m_greatest_payments cs)) (aC (vM 1) (aC (vM 2) aN)))) (ifS (tsM (oM qEq (vM 0) (cM (.int 4)))) (exS (apM (callP (m_evened cs)) (aC (vM 1) (aC (vM 2) aN)))) (ifS (tsM (oM qEq (vM 0) (cM (.int 5)))) (exS (apM (callT (m_best_income cs)) (aC (vM 1) (aC (vM 2) aN)))) (exS (apM (callP (m_income cs)) (aC (vM 1) (aC (vM 3) aN))))))))))
def m__law_caught (cs : List Str) : MF := defM 4 2 (seqS (trS2 6 ["InvalidNumber", "InvalidText", "InvalidName", "InvalidHouse", "InvalidChance", "InvalidDay", "InvalidDays", "InvalidWish", "InvalidOrder", "InvalidWorths", "Duplicate", "UnknownName", "UnknownPair", "NotIndependent", "ByZero"] "WinError" [.many ["InvalidHouse", "InvalidNumber", "InvalidWish", "InvalidWorths"] "value" 4 5 ["InvalidHouse", "InvalidNumber", "InvalidWish"] ((oM qIX (lsM (aC (cM (.str "house")) (aC (cM (.str "number")) (aC (cM (.str "wish")) (aC (cM (.str "worths")) aN))))) (bmM tyL qIndex (vM 5) (aC (cM (.bl true)) aN)))), .one "UnknownPair" (some "pair") "pair", .one "NotIndependent" none "tied"] (exS (apM (callT (m__law_asked cs)) (aC (vM 0) (aC (vM 1) (aC (vM 2) (aC (vM 3) aN))))))) (rtS (lsM (aC (cM (.str "fine")) aN))))
def m__law_pools (cs : List Str) : MF := defM 0 2 (seqS (asS (apM (newP "House" (m_House___init__ cs)) (aC (lsM (aC (tpM (aC (cM (.str "ann")) (aC (lsM (aC (tpM (aC (cM (.str "a")) (aC (apM (newR cs) (aC (cM (.int 1)) (aC (cM (.int 3)) aN))) aN))) (aC (tpM (aC (cM (.str "b")) (aC (apM (newR cs) (aC (cM (.int 1)) (aC (cM (.int 3)) aN))) aN))) (aC (tpM (aC (cM (.str "c")) (aC (apM (newR cs) (aC (cM (.int 1)) (aC (cM (.int 3)) aN))) aN))) aN)))) aN))) aN)) aN)) (gN 0)) (seqS (asS (lsM (aC (tpM (aC (tpM (aC (cM (.str "a")) (aC (cM .non) aN))) (aC (apM (newR cs) (aC (cM (.int 1)) (aC (cM (.int 2)) aN))) aN))) (aC (tpM (aC (tpM (aC (cM (.str "b")) (aC (cM (.str "a")) aN))) (aC (apM (newR cs) (aC (cM (.int 1)) (aC (cM (.int 2)) aN))) aN))) aN))) (gN 1)) (rtS (tpM (aC (vM 0) (aC (cmM "House" (callP (m_House_tied cs)) (aC (lsM (aC (tpM (aC (cM (.str "ann")) (aC (lsM (aC (cM (.str "a")) (aC (cM (.str "b")) aN))) aN))) (aC (tpM (aC (cM (.str "bob")) (aC (lsM (aC (cM (.str "a")) aN)) aN))) aN))) (aC (vM 1) aN))) aN))))))
def b__law_values_right_0 (cs : List Str) : MS := (ifS (tsM (oM (orQ qNe (qNeX (xoHW cs))) (apM (callP (m__law_caught cs)) (aC (vM 11) (aC (ifM (tsM (oM qLT (vM 11) (cM (.int 4)))) (vM 12) (vM 3)) (aC (vM 9) (aC (cM .non) aN))))) (vM 10))) (rtS (cM (.bl false))) ((fun τ S => .nx τ S)))
def b__law_values_right_1 (cs : List Str) : MS := (foS (rg1 (aC (cM (.int 6)) aN)) (gN 11) (b__law_values_right_0 cs))
def b__law_values_right_2 (cs : List Str) : MS := (ifS (tsM (oM (orQ qNe (qNeX (xoHW cs))) (apM (callP (m__law_caught cs)) (aC (vM 11) (aC (ifM (tsM (oM qLT (vM 11) (cM (.int 4)))) (vM 2) (vM 1)) (aC (vM 9) (aC (cM .non) aN))))) (vM 10))) (rtS (cM (.bl false))) ((fun τ S => .nx τ S)))
def b__law_values_right_3 (cs : List Str) : MS := (foS (rg1 (aC (cM (.int 6)) aN)) (gN 11) (b__law_values_right_2 cs))
def m__law_values_right (cs : List Str) : MF := defM 4 9 (seqS (asS (oM qIX (lsM (aC (tpM (aC (cM (.str "ann")) (aC (cM (.str "zz")) aN))) (aC (cM (.int 5)) (aC (cM (.str "x")) (aC (tpM (aC (cM (.str "bob")) (aC (cM (.str "b")) aN))) (aC (tpM aN) (aC (cM .non) aN))))))) (apM (callO (m__law_take cs)) (aC (vM 0) (aC (cM (.int 6)) aN)))) (gN 4)) (seqS (asS (oM qIX (lsM (aC (uM qNegI (cM (.int 1))) (aC (apM (newR cs) (aC (uM qNegI (cM (.int 1))) (aC (cM (.int 2)) aN))) (aC (cM (.bl true)) (aC (cM .non) (aC (cM (.str "1")) (aC (lsM (aC (cM (.int 1)) aN)) aN))))))) (apM (callO (m__law_take cs)) (aC (vM 0) (aC (cM (.int 6)) aN)))) (gN 5)) (seqS (asS (oM qIX (lsM (aC (cM .non) (aC (cM (.int 5)) (aC (cM (.str "x")) (aC (lsM aN) (aC (lsM (aC (tpM (aC (cM (.str "ann")) (aC (cM (.str "a")) aN))) aN)) (aC (vM 2) aN))))))) (apM (callO (m__law_take cs)) (aC (vM 0) (aC (cM (.int 6)) aN)))) (gN 6)) (seqS (asS (fzM (dispM [((tpM (aC (cM (.str "ann")) (aC (cM (.str "a")) aN))), (cM (.int 1))), ((tpM (aC (cM (.str "ann")) (aC (cM (.str "c")) aN))), (apM (newR1 cs) (aC (cM (.int 1)) aN))), ((tpM (aC (cM (.str "ann")) (aC (cM (.str "b")) aN))), (cM (.int 2)))])) (gN 7)) (seqS (asS (lsM (aC (tpM (aC (vM 6) (aC (lsM (aC (cM (.str "worths")) (aC (vM 6) aN))) aN))) (aC (tpM (aC (fzM (dispM [((vM 4), (vM 5))])) (aC (lsM (aC (cM (.str "pair")) (aC (vM 4) aN))) aN))) (aC (tpM (aC (fzM (dispM [((tpM (aC (cM (.str "ann")) (aC (cM (.str "a")) aN))), (vM 5)), ((vM 4), (cM (.int 1)))])) (aC (lsM (aC (cM (.str "number")) (aC (vM 5) aN))) aN))) aN)))) (gN 8)) (seqS (asS (oM qADD (vM 8) (lsM (aC (tpM (aC (vM 7) (aC (lsM (aC (cM (.str "worths")) (aC (vM 7) aN))) aN))) (aC (tpM (aC (fzM (d1M (tpM (aC (cM (.str "ann")) (aC (cM (.str "a")) aN))) (cM (.int 1)))) (aC (lsM (aC (cM (.str "worths")) (aC (fzM (d1M (tpM (aC (cM (.str "ann")) (aC (cM (.str "a")) aN))) (cM (.int 1)))) aN))) aN))) (aC (tpM (aC (fzM dnM) (aC (lsM (aC (cM (.str "worths")) (aC (fzM dnM) aN))) aN))) aN))))) (gN 8)) (seqS (foS (itM (vM 8)) (gT 2 (gsC (gN 9) (gsC (gN 10) gsN))) (b__law_values_right_3 cs)) (seqS (asS (apM (newP "Wish" (m_Wish___init__ cs)) (aC (vM 3) (aC (fzM dnM) aN))) (gN 12)) (seqS (asS (lsM (aC (tpM (aC (fzM (d1M (tpM (aC (cM (.str "ann")) (aC (cM (.str "b")) aN))) (cM (.int 1)))) (aC (lsM (aC (cM (.str "tied")) aN)) aN))) (aC (tpM (aC (fzM dnM) (aC (lsM (aC (cM (.str "worths")) (aC (fzM dnM) aN))) aN))) (aC (tpM (aC (fzM (d1M (tpM (aC (cM (.str "bob")) (aC (cM (.str "a")) aN))) (vM 5))) (aC (lsM (aC (cM (.str "number")) (aC (vM 5) aN))) aN))) aN)))) (gN 8)) (seqS (foS (itM (oM qADD (vM 8) (lsM (aC (tpM (aC (fzM (d1M (tpM (aC (cM (.str "bob")) (aC (cM (.str "a")) aN))) (cM (.int 1)))) (aC (lsM (aC (cM (.str "worths")) (aC (fzM (d1M (tpM (aC (cM (.str "bob")) (aC (cM (.str "a")) aN))) (cM (.int 1)))) aN))) aN))) aN)))) (gT 2 (gsC (gN 9) (gsC (gN 10) gsN))) (b__law_values_right_1 cs)) (rtS (oM qEq (apM (callP (m__law_caught cs)) (aC (cM (.int 6)) (aC (vM 3) (aC (cM .non) (aC (fzM (d1M (tpM (aC (cM (.str "bob")) (aC (cM (.str "a")) aN))) (uM qNegI (cM (.int 5))))) aN))))) (lsM (aC (cM (.str "fine")) aN))))))))))))))
def b__law_paid_right_0 (cs : List Str) : MS := (ifS (tsM (oM (orQ qNe (qNeX (xoHW cs))) (apM (callP (m__law_caught cs)) (aC (vM 10) (aC (vM 13) (aC (cM .non) (aC (cM .non) aN))))) (ifM (tsM (oM qLT (vM 10) (cM (.int 4)))) (lsM (aC (cM (.str "wish")) (aC (vM 13) aN))) (lsM (aC (cM (.str "house")) (aC (vM 13) aN)))))) (rtS (cM (.bl false))) ((fun τ S => .nx τ S)))
def b__law_paid_right_1 (cs : List Str) : MS := (ifS (tsM (oM (orQ qNe (qNeX (xoHW cs))) (apM (callP (m__law_caught cs)) (aC (vM 10) (aC (ifM (tsM (oM qEq (vM 10) (cM (.int 6)))) (vM 1) (vM 2)) (aC (vM 6) (aC (vM 8) aN))))) (vM 9))) (rtS (cM (.bl false))) ((fun τ S => .nx τ S)))
def b__law_paid_right_2 (cs : List Str) : MS := (foS (itM (lsM (aC (cM (.int 1)) (aC (cM (.int 2)) (aC (cM (.int 6)) aN))))) (gN 10) (b__law_paid_right_1 cs))
def m__law_paid_right (cs : List Str) : MF := defM 3 11 (seqS (asS (oM qIX (lsM (aC (tpM (aC (cM (.str "ann")) (aC (cM (.str "zz")) aN))) (aC (cM (.int 5)) (aC (cM (.str "x")) (aC (tpM (aC (cM (.str "bob")) (aC (cM (.str "a")) aN))) (aC (tpM aN) (aC (cM .non) aN))))))) (apM (callO (m__law_take cs)) (aC (vM 0) (aC (cM (.int 6)) aN)))) (gN 3)) (seqS (paS 4 5 (aC (oM qIX (lsM (aC (cM (.bl true)) (aC (cM .non) (aC (cM (.str "1")) (aC (lsM (aC (cM (.int 1)) aN)) (aC (fzM dnM) aN)))))) (apM (callO (m__law_take cs)) (aC (vM 0) (aC (cM (.int 5)) aN)))) (aC (oM qIX (lsM (aC (cM .non) (aC (cM (.int 5)) (aC (cM (.str "x")) (aC (lsM aN) (aC (vM 2) aN)))))) (apM (callO (m__law_take cs)) (aC (vM 0) (aC (cM (.int 5)) aN)))) aN))) (seqS (asS (fzM (dispM [((tpM (aC (cM (.str "ann")) (aC (cM (.str "b")) aN))), (cM (.int 1))), ((tpM (aC (cM (.str "ann")) (aC (cM (.str "c")) aN))), (cM (.int 2)))])) (gN 6)) (seqS (asS (lsM (aC (tpM (aC (vM 5) (aC (lsM (aC (cM (.str "worths")) (aC (vM 5) aN))) aN))) (aC (tpM (aC (fzM (dispM [((vM 3), (vM 4))])) (aC (lsM (aC (cM (.str "pair")) (aC (vM 3) aN))) aN))) (aC (tpM (aC (fzM (dispM [((tpM (aC (cM (.str "ann")) (aC (cM (.str "a")) aN))), (vM 4)), ((vM 3), (cM (.int 1)))])) (aC (lsM (aC (cM (.str "number")) (aC (vM 4) aN))) aN))) aN)))) (gN 7)) (seqS (foS (itM (oM qADD (vM 7) (lsM (aC (tpM (aC (fzM (dispM [((tpM (aC (cM (.str "ann")) (aC (cM (.str "c")) aN))), (uM qNegI (cM (.int 3)))), ((vM 3), (cM (.int 1)))])) (aC (lsM (aC (cM (.str "pair")) (aC (vM 3) aN))) aN))) aN)))) (gT 2 (gsC (gN 8) (gsC (gN 9) gsN))) (b__law_paid_right_2 cs)) (seqS (asS (loM (aC (cM (.int 5)) aN)) (gN 11)) (seqS (asS (apM (m__law_caught cs) (aC (cM (.int 5)) (aC (vM 1) (aC (vM 11) (aC (cM .non) aN))))) (gN 12)) (seqS (exS (bmM tyL qAppend (vM 11) (aC (cM (.int 6)) aN))) (seqS ((fvS 12 (ifS (tsM (oM qNe (vM 12) (lsM (aC (cM (.str "worths")) (aC (lsM (aC (cM (.int 5)) (aC (cM (.int 6)) aN))) aN))))) (rtS (cM (.bl false))) ((fun τ S => .nx τ S))))) (seqS (asS (oM qIX (lsM (aC (cM .non) (aC (cM (.int 5)) (aC (cM (.str "x")) (aC (fzM dnM) (aC (tpM (aC (cM (.str "ann")) (aC (cM (.str "a")) aN))) aN)))))) (apM (callO (m__law_take cs)) (aC (vM 0) (aC (cM (.int 5)) aN)))) (gN 13)) (seqS (foS (rg1 (aC (cM (.int 7)) aN)) (gN 10) (b__law_paid_right_0 cs)) (rtS (byM (oM (orQ qEq (qEqX (xoHW cs))) (apM (callP (m__law_caught cs)) (aC (cM (.int 0)) (aC (vM 1) (aC (cM .non) (aC (cM .non) aN))))) (lsM (aC (cM (.str "wish")) (aC (vM 1) aN)))) (oM (orQ qEq (qEqX (xoHW cs))) (apM (callP (m__law_caught cs)) (aC (cM (.int 4)) (aC (vM 2) (aC (cM .non) (aC (cM .non) aN))))) (lsM (aC (cM (.str "house")) (aC (vM 2) aN)))) (cM (.bl false)))))))))))))))
def b_law_0 (cs : List Str) : MS := (ifS (orM (ntM (tsM (apM (callO (m__law_values_right cs)) (aC (vM 2) (aC (vM 3) (aC (vM 5) (aC (vM 4) aN))))))) (ntM (tsM (apM (callO (m__law_paid_right cs)) (aC (vM 2) (aC (vM 3) (aC (vM 5) aN))))))) (rtS (cM (.bl false))) ((fun τ S => .nx τ S)))
def b_law_1 (cs : List Str) : MS := (seqS (asS (apM (m__law_box cs) (aC (apM (callP (m__law_cell cs)) (aC (vM 0) (aC (vM 1) aN))) aN)) (gN 2)) (seqS (asS (apM (callP (m__law_pools cs)) aN) (gT 2 (gsC (gN 3) (gsC (gN 4) gsN)))) (seqS (asS (apM (newP "Wish" (m_Wish___init__ cs)) (aC (vM 3) (aC (fzM (d1M (tpM (aC (cM (.str "ann")) (aC (oM qIX (lsM (aC (cM (.str "a")) (aC (cM (.str "b")) (aC (cM (.str "c")) aN)))) (apM (callO (m__law_take cs)) (aC (vM 2) (aC (cM (.int 3)) aN)))) aN))) (apM (newR cs) (aC (cM (.int 1)) (aC (oM qADD (cM (.int 1)) (apM (callO (m__law_take cs)) (aC (vM 2) (aC (cM (.int 9)) aN)))) aN))))) aN))) (gN 5)) (foS (rg1 (aC (cM (.int 3)) aN)) (gN 6) (b_law_0 cs)))))
def m_law (cs : List Str) : MF := defM 1 6 (seqS (foS (rg1 (aC (callM qMax2 (aC (cM (.int 2)) (aC (callM qMin2 (aC (cM (.int 8)) (aC (callM qLEN (aC (vM 0) aN)) aN))) aN))) aN)) (gN 1) (b_law_1 cs)) (rtS (cM (.bl true))))
end Mi
set_option Elab.async false
set_option linter.all false
set_option maxRecDepth 100000
set_option maxHeartbeats 4000000
namespace Mi
open PySem PySem.Spec PyProof.Rows L2 He Wl
def opD : Option Pair → D
  | none => .non
  | some p => prD p
section
variable {cs : List Str} {names : List Str} {kinds : List (List Str)} {t : List (Day × Rat)} {S : Sto} {ps : List Pair} {d : Day} {x y : D}
theorem sq_nx {a b : MS} {τ τ' : Sl} {S S' : Sto} (h : a τ S = .nx τ' S') : seqS a b τ S = b τ' S' := by unfold seqS; rw [h]
@[simp] theorem plain_oD (n : Nat) (o : Option Str) : plainD n (oD o) = true := by
  cases o with
  | none => exact plain_non n
  | some x => exact plain_str x n
@[simp] theorem plain_opD (n : Nat) (o : Option Pair) : plainD (n + 1) (opD o) = true := by
  cases o with
  | none => exact plain_non _
  | some x => exact plain_pr x n
structure HsOk (cs : List Str) (names : List Str) (kinds : List (List Str)) : Prop where
  hc : (("House" : Str) ∈ cs)
  len : names.length = kinds.length
  n4 : names.length ≤ 1000
  nd : names.Nodup
  pl : (pairsAll names kinds).length ≤ 16
  pnd : (pairsAll names kinds).Nodup
end
end Mi
set_option Elab.async false
set_option linter.all false
set_option maxRecDepth 100000
set_option maxHeartbeats 4000000
namespace Mi
open PySem PySem.Spec PyProof.Rows L2 He Wl
section
variable {cs : List Str} {S : Sto}
theorem mulI {i j : Int} (h : i.natAbs < 2 ^ 4000) (h' : j.natAbs < 2 ^ 4000) : run qMUL [.d (.int i), .d (.int j)] S = .ok (.d (.int (i * j))) S := mulS h h'
structure FSz (a b : Int) : Prop where
  p : 0 < b
  a : a.natAbs < 2 ^ 4000
  b : b.natAbs < 2 ^ 4000
theorem Sz.fr {q : Rat} (h : Sz 4000 q) : FSz q.num q.den := ⟨by have := q.den_pos; omega, h.1, by simpa using h.2⟩
end
end Mi
set_option Elab.async false
set_option linter.all false
set_option maxRecDepth 100000
set_option maxHeartbeats 4000000
namespace Mi
open PySem PySem.Spec PyProof.Rows L2 He Wl
section
variable {cs : List Str} {S : Sto}
structure BagOk (k : Nat) (o : O) : Prop where
  of_ : ∃ a b c : Int, o = LO [.int a, .int b, .int c] ∧ 0 ≤ a ∧ 0 ≤ b ∧ b < 2 ^ 31 ∧ 0 ≤ c ∧ c ≤ k
theorem BagOk.mono {k k' : Nat} {o : O} (h : BagOk k o) (l : k ≤ k') : BagOk k' o := by
  obtain ⟨a, b, c, e, h1, h2, h3, h4, h5⟩ := h.of_
  exact ⟨a, b, c, e, h1, h2, h3, h4, by omega⟩
theorem run_powI {i : Int} {j n : Nat} (h : i.natAbs < 2 ^ n) (hn : n * j ≤ 2 ^ 27) : run qPowI [.d (.int i), .d (.int (j : Nat))] S = .ok (.d (.int (i ^ j))) S := by
  have hb : Builtin.Int.intBits i ≤ n := by
    unfold Builtin.Int.intBits
    split
    · omega
    · rename_i z
      have z' : i.natAbs ≠ 0 := by simpa using z
      exact (Nat.log2_lt z').mpr h
  have hc : (0 : Int) ≤ (j : Nat) ∧ Builtin.Int.intBits i * ((j : Nat) : Int).toNat ≤ 2 ^ 27 := by
    refine ⟨by omega, ?_⟩
    rw [Int.toNat_natCast]
    exact Nat.le_trans (Nat.mul_le_mul_right _ hb) hn
  show (match (if 0 ≤ ((j : Nat) : Int) ∧ Builtin.Int.intBits i * ((j : Nat) : Int).toNat ≤ 2 ^ 27 then some (D.int (i ^ ((j : Nat) : Int).toNat)) else none).map W.d |>.map fun w => (w, S) with
    | some (w, S') => Res.ok w S'
    | none => .no) = _
  rw [if_pos hc]
  rfl
theorem fmod_rng {i n : Int} (h : 0 < n) : ∃ j : Nat, i.fmod n = j ∧ (j : Int) < n := by
  have h1 := Int.fmod_nonneg_of_pos i h
  have h2 := Int.fmod_lt_of_pos i h
  exact ⟨(i.fmod n).toNat, by omega, by omega⟩
theorem get3 {a b c : D} : run qIX [.loc 0, .d (.int 0)] [LO [a, b, c]] = .ok (.d a) [LO [a, b, c]] ∧ run qIX [.loc 0, .d (.int 1)] [LO [a, b, c]] = .ok (.d b) [LO [a, b, c]] ∧ run qIX [.loc 0, .d (.int 2)] [LO [a, b, c]] = .ok (.d c) [LO [a, b, c]] := ⟨rfl, rfl, rfl⟩
theorem set3 {a b c x : D} : qSET [LO [a, b, c]] (.loc 0) (.d (.int 0)) (.d x) = some [LO [x, b, c]] ∧ qSET [LO [a, b, c]] (.loc 0) (.d (.int 2)) (.d x) = some [LO [a, b, x]] := ⟨rfl, rfl⟩
theorem take_eq {k : Nat} {o : O} {n : Int} (h : BagOk k o) (hk : k ≤ 2 ^ 40) (hn : 0 < n) (hb : n.natAbs < 2 ^ 8000) : ∃ (j : Nat) (o' : O), (j : Int) < n ∧ BagOk (k + 1) o' ∧ m__law_take cs [.loc 0, .d (.int n)] [o] = .ok (.d (.int (j : Nat))) [o'] := by
  obtain ⟨a, b, c, rfl, ha, hb0, hb1, hc0, hc1⟩ := h.of_
  have n0 : n ≠ 0 := by omega
  have nl : n.natAbs.log2 < 9000 := Nat.lt_of_le_of_lt (lg hb) (by decide)
  by_cases z : 0 < a
  · obtain ⟨j, ej, hj⟩ := fmod_rng (i := a) hn
    refine ⟨j, LO [.int (a.fdiv n), .int b, .int c], hj, ⟨_, _, _, rfl, Int.fdiv_nonneg ha (by omega), hb0, hb1, hc0, by omega⟩, ?_⟩
    have i1 : run qModI [.d (.int a), .d (.int n)] [LO [.int a, .int b, .int c]] = .ok (.d (.int (j : Nat))) [LO [.int a, .int b, .int c]] := by rw [run_modI n0, ej]
    have i2 : run qDivI [.d (.int a), .d (.int n)] [LO [.int a, .int b, .int c]] = .ok (.d (.int (a.fdiv n))) [LO [.int a, .int b, .int c]] := run_divI n0 nl
    simp only [m__law_take, defM, List.length_cons, List.length_nil, if_true, List.map_cons, List.map_nil, List.replicate, List.cons_append, List.nil_append, seqS, ifS, tsM, oM, vM_ap, cM_ap, List.getElem?_cons_succ, List.getElem?_cons_zero, Res.bind_ok, get3, run_gtI, Res.out_ok, z, decide_true, asS, i1, i2, gN, List.set_cons_succ, List.set_cons_zero, gS, set3, Option.map_some, rtS]
  · have a0 : ¬ 0 < a := z
    have lc : (c + 1).natAbs < 2 ^ 41 := by omega
    have sc : ∀ {x y : Int}, x.natAbs < 2 ^ 100 → y.natAbs < 2 ^ 100 → ∀ S : Sto, run qMUL [.d (.int x), .d (.int y)] S = .ok (.d (.int (x * y))) S := fun hx hy S => mulI (Nat.lt_of_lt_of_le hx (Nat.pow_le_pow_right (by decide) (by decide))) (Nat.lt_of_lt_of_le hy (Nat.pow_le_pow_right (by decide) (by decide)))
    have m1 := sc (x := 15530881) (y := c + 1) (by decide) (by omega)
    have m2 := sc (x := 104711) (y := c + 1) (by decide) (by omega)
    have r1 : ∀ {x : Int}, x.natAbs < 2 ^ 100 → ∀ S : Sto, run qPowI [.d (.int x), .d (.int 5)] S = .ok (.d (.int (x ^ 5))) S := fun hx S => run_powI (j := 5) hx (by decide)
    have r2 : ∀ {x : Int}, x.natAbs < 2 ^ 100 → ∀ S : Sto, run qPowI [.d (.int x), .d (.int 3)] S = .ok (.d (.int (x ^ 3))) S := fun hx S => run_powI (j := 3) hx (by decide)
    have d1 : ∀ (x : Int) (S : Sto), run qModI [.d (.int x), .d (.int 2147483647)] S = .ok (.d (.int (x.fmod 2147483647))) S := fun x S => run_modI (by decide)
    have d2 : ∀ (x : Int) (S : Sto), run qModI [.d (.int x), .d (.int 2147483587)] S = .ok (.d (.int (x.fmod 2147483587))) S := fun x S => run_modI (by decide)
    have d3 : ∀ (x : Int) (S : Sto), run qDivI [.d (.int x), .d (.int 32)] S = .ok (.d (.int (x.fdiv 32))) S := fun x S => run_divI (by decide) (by decide)
    have p1 : (b + 15530881 * (c + 1) + 2989).natAbs < 2 ^ 100 := by omega
    have p2 : ∀ x : Int, (x.fmod 2147483647 + 104711 * (c + 1)).natAbs < 2 ^ 100 := fun x => by
      have h1 := Int.fmod_nonneg_of_pos x (show (0 : Int) < 2147483647 by decide)
      have h2 := Int.fmod_lt_of_pos x (show (0 : Int) < 2147483647 by decide)
      omega
    generalize hx : ((b + 15530881 * (c + 1) + 2989) ^ 5).fmod 2147483647 = x
    have p3 : (x + 104711 * (c + 1)).natAbs < 2 ^ 100 := by rw [← hx]; exact p2 _
    generalize hy : ((x + 104711 * (c + 1)) ^ 3).fmod 2147483587 = y
    obtain ⟨j, ej, hj⟩ := fmod_rng (i := y.fdiv 32) hn
    refine ⟨j, LO [.int a, .int b, .int (c + 1)], hj, ⟨_, _, _, rfl, ha, hb0, hb1, by omega, by omega⟩, ?_⟩
    have i1 : ∀ S : Sto, run qModI [.d (.int (y.fdiv 32)), .d (.int n)] S = .ok (.d (.int (j : Nat))) S := fun S => by rw [run_modI n0, ej]
    simp only [m__law_take, defM, List.length_cons, List.length_nil, if_true, List.map_cons, List.map_nil, List.replicate, List.cons_append, List.nil_append, seqS, ifS, tsM, oM, vM_ap, cM_ap, List.getElem?_cons_succ, List.getElem?_cons_zero, Res.bind_ok, get3, run_gtI, Res.out_ok, a0, decide_false, Bool.false_eq_true, if_false, asS, run_addI, gS, set3, Option.map_some, m1, r1 p1, d1, hx, gN, List.set_cons_succ, List.set_cons_zero, m2, r2 p3, d2, hy, d3, i1, rtS]
def BFn (c : Nat) (m : MF) (xs : List D) (P : D → Prop) : Prop := ∀ k o, BagOk k o → k + c ≤ 2 ^ 40 → ∃ w o' G y, m (.loc 0 :: xs.map .d) [o] = .ok w (o' :: G) ∧ BagOk (k + c) o' ∧ toD 1 (o' :: G) w = some y ∧ P y
theorem BagOk.flat {k : Nat} {o : O} (h : BagOk k o) : o.flat = true ∧ ∀ n S, flatO n S o = some o := by
  obtain ⟨a, b, c, rfl, _⟩ := h.of_
  exact ⟨rfl, fun n S => rfl⟩
theorem BFn.call {c k i : Nat} {m : MF} {xs : List D} {P : D → Prop} {o : O} (h : BFn c m xs P) (hs : S[i]? = some o) (hb : BagOk k o) (hk : k + c ≤ 2 ^ 40) : ∃ o' y, callO m (.loc i :: xs.map .d) S = .ok (.d y) (S.set i o') ∧ BagOk (k + c) o' ∧ P y := by
  obtain ⟨w, o', G, y, e, hb', ht, hp⟩ := h k o hb hk
  refine ⟨o', y, ?_, hb', hp⟩
  unfold callO
  dsimp only
  rw [hs]
  simp only [onlyD_map, hb.flat.1, if_true, e, back, hb'.flat.2, ht]
theorem take_bfn {n : Int} (hn : 0 < n) (hb : n.natAbs < 2 ^ 8000) : BFn 1 (m__law_take cs) [.int n] (fun y => ∃ j : Nat, y = .int (j : Nat) ∧ (j : Int) < n) := fun k o h hk => by
  obtain ⟨j, o', hj, hb', e⟩ := take_eq (cs := cs) h (by omega) hn hb
  exact ⟨_, o', [], _, e, hb', rfl, j, rfl, hj⟩
theorem take_at {k n : Nat} {o : O} {G : Sto} (hb : BagOk k o) (hk : k + 1 ≤ 2 ^ 40) (hn : 0 < n) (hl : n < 2 ^ 100) : ∃ (o' : O) (j : Nat), callO (m__law_take cs) [.loc 0, .d (.int (n : Nat))] (o :: G) = .ok (.d (.int (j : Nat))) (o' :: G) ∧ BagOk (k + 1) o' ∧ j < n := by
  obtain ⟨o', y, e, hb', j, rfl, hj⟩ := (take_bfn (cs := cs) (n := (n : Nat)) (by omega) (by rw [Int.natAbs_natCast]; exact Nat.lt_of_lt_of_le hl (Nat.pow_le_pow_right (by decide) (by decide)))).call (S := o :: G) (i := 0) rfl hb hk
  exact ⟨o', j, e, hb', by omega⟩
end
end Mi
set_option Elab.async false
set_option linter.all false
set_option maxRecDepth 100000
set_option maxHeartbeats 4000000
namespace Mi
open PySem PySem.Spec PyProof.Rows L2 He Wl
section
variable {cs : List Str} {S : Sto}
theorem cell_fn {ns : List Int} {i : Nat} (hi : i ≤ 1000) : ∃ v : Int, Fn (m__law_cell cs) [.scr ns, .int (i : Nat)] (.int v) := by
  have e0 : run qLEN [.d (.scr ns)] ([] : Sto) = .ok (.d (.int ns.length)) [] := by
    simp [run, qLEN, orQ, qLen, pure1, seqOf]
  by_cases h : i < ns.length
  · have e1 : run qIX [.d (.scr ns), .d (.int (i : Nat))] ([] : Sto) = .ok (.d (.int ns[i])) [] := by
      have : atI (ns.map fun i => W.d (.int i)) (i : Int) = some (.d (.int ns[i])) := by
        rw [atI_nat (by simpa using h), List.getElem?_map, List.getElem?_eq_getElem h]; rfl
      simp [run, qIX, orQ, qIx, pure2, seqOf, this]
    have h' : ((i : Nat) : Int) < ns.length := by omega
    exact ⟨ns[i], Fn.mk (S := []) (by simp [m__law_cell, defM, seqS, rtS, asS, ifS, exS, tsM, ntM, anM, orM, byM, ifM, callM, apM, aC, aN, vM, cM, tpM, prM, sltM, sltK, ratAt, gT, gsC, gsN, gN, oM, uM, msM, Res.out, W.items, e0, e1, h, h'])⟩
  · have h' : ¬ ((i : Nat) : Int) < ns.length := by omega
    have m1 : run qMUL [.d (.int 15530881), .d (.int (i : Nat))] ([] : Sto) = .ok (.d (.int (15530881 * (i : Nat)))) [] := mulI (Nat.lt_of_lt_of_le (by decide : _ < 2 ^ 30) (Nat.pow_le_pow_right (by decide) (by decide))) (by
      have : ((i : Nat) : Int).natAbs < 2 ^ 10 := by simp; omega
      exact Nat.lt_of_lt_of_le this (Nat.pow_le_pow_right (by decide) (by decide)))
    exact ⟨15530881 * (i : Nat) + 2989, Fn.mk (S := []) (by simp [m__law_cell, defM, seqS, rtS, asS, ifS, exS, tsM, ntM, anM, orM, byM, ifM, callM, apM, aC, aN, vM, cM, tpM, prM, sltM, sltK, ratAt, gT, gsC, gsN, gN, oM, uM, msM, Res.out, W.items, e0, h, h', m1])⟩
theorem box_eq {v : Int} : ∃ o, BagOk 0 o ∧ m__law_box cs [.d (.int v)] S = .ok (.loc S.length) (S ++ [o]) := by
  have p1 : run qPowI [.d (.int 10), .d (.int 18)] S = .ok (.d (.int (10 ^ 18))) S := run_powI (i := 10) (j := 18) (n := 4) (by decide) (by decide)
  have p2 : run qModI [.d (.int v), .d (.int 2147483629)] S = .ok (.d (.int (v.fmod 2147483629))) S := run_modI (by decide)
  have p3 : run qMax2 [.d (.int 0), .d (.int (v - 10 ^ 18))] S = .ok (.d (.int (if v - 10 ^ 18 > 0 then v - 10 ^ 18 else 0))) S := rfl
  have h1 := Int.fmod_nonneg_of_pos v (show (0 : Int) < 2147483629 by decide)
  have h2 := Int.fmod_lt_of_pos v (show (0 : Int) < 2147483629 by decide)
  refine ⟨LO [.int (if v - 10 ^ 18 > 0 then v - 10 ^ 18 else 0), .int (v.fmod 2147483629), .int 0], ⟨_, _, _, rfl, by split <;> omega, h1, by omega, by decide, by decide⟩, ?_⟩
  simp only [m__law_box, defM, List.length_cons, List.length_nil, if_true, List.map_cons, List.map_nil, List.replicate, List.append_nil, rtS, loM, aC, aN, callM, cM_ap, vM_ap, List.getElem?_cons_zero, oM, Res.bind_ok, p1, run_subI, p3, p2]
  rfl
end
end Mi
set_option Elab.async false
set_option linter.all false
set_option maxRecDepth 100000
set_option maxHeartbeats 4000000
namespace Mi
open PySem PySem.Spec PyProof.Rows L2 He Wl
abbrev csK : List Str := ["House", "Wish", "Pool"]
@[reducible] def mkR (n : Int) (d : Nat) (h1 : d ≠ 0 := by decide) (h2 : n.natAbs.Coprime d := by decide) : Rat := ⟨n, d, h1, h2⟩
def hA : D := .ins "House" ["own_names", "own_kinds", "table", "own_days", "own_chances", "free", "own_text"] [.lst [.str "ann"], .lst [.lst [.str "a", .str "b", .str "c"]], .dct [.tup [.text "a"], .tup [.text "b"], .tup [.text "c"], .tup [.none]] [.rat (mkR (1) 3), .rat (mkR (1) 3), .rat (mkR (1) 3), .rat (mkR (0) 1)], .lst [.tup [.tup [.str "a"], .rat (mkR (1) 3)], .tup [.tup [.str "b"], .rat (mkR (1) 3)], .tup [.tup [.str "c"], .rat (mkR (1) 3)]], .dct [.tup [.text "ann", .text "a"], .tup [.text "ann", .text "b"], .tup [.text "ann", .text "c"]] [.rat (mkR (1) 3), .rat (mkR (1) 3), .rat (mkR (1) 3)], .bl true, .str "ann: a 1/3, b 1/3, c 1/3"]
def hB : D := .ins "House" ["own_names", "own_kinds", "table", "own_days", "own_chances", "free", "own_text"] [.lst [.str "ann", .str "bob"], .lst [.lst [.str "a", .str "b"], .lst [.str "a"]], .dct [.tup [.text "a", .text "a"], .tup [.text "a", .none], .tup [.text "b", .text "a"], .tup [.text "b", .none], .tup [.none, .text "a"], .tup [.none, .none]] [.rat (mkR (0) 1), .rat (mkR (1) 2), .rat (mkR (1) 2), .rat (mkR (0) 1), .rat (mkR (0) 1), .rat (mkR (0) 1)], .lst [.tup [.tup [.str "a", .non], .rat (mkR (1) 2)], .tup [.tup [.str "b", .str "a"], .rat (mkR (1) 2)]], .dct [.tup [.text "ann", .text "a"], .tup [.text "ann", .text "b"], .tup [.text "bob", .text "a"]] [.rat (mkR (1) 2), .rat (mkR (1) 2), .rat (mkR (1) 2)], .bl false, .str "ann: a, b\nbob: a\nday a - 1/2\nday b a 1/2"]
theorem pools_eq {S : Sto} : callP (m__law_pools csK) [] S = .ok (.d (.tup [hA, hB])) S := by kernel_rfl
def wiD (t : D) : D := .ins "Wish" ["house", "table"] [hA, t]
def okC (k : Nat) (a v p due : D) : Bool := match callP (m__law_caught csK) [.d (.int k), .d a, .d v, .d p] [] with
  | .ok (.d y) _ => (match run (orQ qNe (qNeX (xoHW csK))) [.d y, .d due] [] with
    | .ok (.d (.bl b)) _ => !b
    | _ => false)
  | _ => false
theorem t1 (t : D) : okC 0 (wiD t) (.int 5) .non (.lst [.str "worths", .int 5]) = true := by kernel_rfl
theorem t2 (t : D) : okC 0 (wiD t) (.dct [.tup [.text "ann", .text "a"], .num 5] [.bl true, .int 1]) .non (.lst [.str "number", .bl true]) = true := by kernel_rfl
theorem t3 (t : D) : okC 0 (wiD t) (.dct [.tup [.text "ann", .text "a"]] [.int 1]) .non (.lst [.str "worths", .dct [.tup [.text "ann", .text "a"]] [.int 1]]) = true := by kernel_rfl
end Mi
set_option Elab.async false
set_option linter.all false
set_option maxRecDepth 100000
set_option maxHeartbeats 4000000
namespace Mi
open PySem PySem.Spec PyProof.Rows L2 He Wl
abbrev nI (n : Nat) : D := .int (n : Int)
theorem at_low {B : Sto} {n : Nat} {o : O} {G : Sto} (h : B[n]? = some o) : (B ++ G)[n]? = some o := by
  rw [List.getElem?_append_left (List.getElem?_eq_some_iff.mp h).1]; exact h
theorem fz_dct {m : ME} {τ : Sl} {S0 S : Sto} {ks : List NK} {ds : List D} (h : m τ S0 = .ok (.loc S.length) (S ++ [.dct ks (ds.map .d)])) : fzM m τ S0 = .ok (.d (.dct ks ds)) (S ++ [.fz (.dct ks ds)]) := by
  have z : (S ++ [O.dct ks (ds.map .d)])[S.length]? = some (.dct ks (ds.map .d)) := by simp
  have f : frz1 (S ++ [O.dct ks (ds.map .d)]) S.length = S ++ [.fz (.dct ks ds)] := by
    unfold frz1
    rw [z]
    simp only [onlyD_map]
    simp
  simp only [fzM, h, Res.bind_ok]
  rw [f]
  simp
section
variable {S : Sto}
end
structure SR (n k : Nat) (S : Sto) : Prop where
  bag : ∃ o, S[n]? = some o ∧ BagOk k o
  up : Up S
theorem SR.lt {n k : Nat} {S : Sto} (h : SR n k S) : n < S.length := by
  obtain ⟨o, e, b⟩ := h.bag
  exact (List.getElem?_eq_some_iff.mp e).1
theorem SR.mono {n k k' : Nat} {S : Sto} (h : SR n k S) (l : k ≤ k') : SR n k' S := by
  obtain ⟨o, e, b⟩ := h.bag
  exact ⟨⟨o, e, b.mono l⟩, h.up⟩
theorem bag_upto {k m : Nat} {o : O} (h : BagOk k o) : o.upto m = true := by
  obtain ⟨a, b, c, rfl, _⟩ := h.of_
  exact upto_LO _ _
theorem SR.apps {n k : Nat} {S G : Sto} (h : SR n k S) (u : Up (S ++ G)) : SR n k (S ++ G) := by
  obtain ⟨o', e, b⟩ := h.bag
  exact ⟨⟨o', at_low e, b⟩, u⟩
theorem SR.app {n k : Nat} {S : Sto} {o : O} (h : SR n k S) (ho : o.upto (S.length + 1) = true) : SR n k (S ++ [o]) := h.apps (h.up.app ho)
theorem SR.set {n k j : Nat} {S : Sto} {o : O} (h : SR n k S) (hj : j ≠ n) (ho : o.upto S.length = true) : SR n k (S.set j o) := by
  obtain ⟨o', e, b⟩ := h.bag
  exact ⟨⟨o', by rw [List.getElem?_set_ne hj]; exact e, b⟩, h.up.set ho⟩
theorem SR.draw {n k c : Nat} {S : Sto} {m : MF} {xs : List D} {P : D → Prop} (h : SR n k S) (hf : BFn c m xs P) (hk : k + c ≤ 2 ^ 40) : ∃ (S' : Sto) (y : D), callO m (.loc n :: xs.map .d) S = .ok (.d y) S' ∧ SR n (k + c) S' ∧ S'.length = S.length ∧ P y := by
  obtain ⟨o, e, b⟩ := h.bag
  obtain ⟨o', y, e1, b1, p⟩ := hf.call e b hk
  exact ⟨S.set n o', y, e1, ⟨⟨o', by rw [List.getElem?_set_self h.lt], b1⟩, h.up.set (bag_upto b1)⟩, by simp, p⟩
theorem SR.take {cs : List Str} {n k m : Nat} {S : Sto} (h : SR n k S) (hm : 0 < m) (hl : m ≤ 1000) (hk : k + 1 ≤ 2 ^ 40) : ∃ (S' : Sto) (j : Nat), callO (m__law_take cs) [.loc n, .d (.int (m : Nat))] S = .ok (.d (nI j)) S' ∧ SR n (k + 1) S' ∧ S'.length = S.length ∧ j < m := by
  obtain ⟨S', y, e, h', l, j, rfl, hj⟩ := h.draw (take_bfn (cs := cs) (n := (m : Nat)) (by omega) (by rw [Int.natAbs_natCast]; exact Nat.lt_of_le_of_lt hl (Nat.lt_of_lt_of_le (by decide : 1000 < 2 ^ 10) (Nat.pow_le_pow_right (by decide) (by decide))))) hk
  exact ⟨S', j, e, h', l, by omega⟩
section
variable {τ : Sl} {m a b : ME} {mr : MA} {x y z : D} {xs : List D}
end
end Mi
set_option Elab.async false
set_option linter.all false
set_option maxRecDepth 100000
set_option maxHeartbeats 4000000
namespace Mi
open PySem PySem.Spec PyProof.Rows L2 He Wl
abbrev aa : D := .tup [.str "ann", .str "a"]
abbrev aaK : NK := .tup [.text "ann", .text "a"]
abbrev baK : NK := .tup [.text "bob", .text "a"]
abbrev acK : NK := .tup [.text "ann", .text "c"]
abbrev abK : NK := .tup [.text "ann", .text "b"]
def farL : List (D × NK) := [(.tup [.str "ann", .str "zz"], .tup [.text "ann", .text "zz"]), (.int 5, .num 5), (.str "x", .text "x"), (.tup [.str "bob", .str "b"], .tup [.text "bob", .text "b"]), (.tup [], .tup []), (.non, .none)]
def badL : List D := [.int (-1), .rat (mkR (-1) 2), .bl true, .non, .str "1", .lst [.int 1]]
def oddL : List D := [.non, .int 5, .str "x", .lst [], .lst [aa]]
def sameD : D := .dct [aaK, acK, abK] [.int 1, .rat (mkR 1 1), .int 2]
abbrev Cas := D × D
def csD (c : Cas) : D := .tup [c.1, c.2]
def cOdd (x : D) : Cas := (x, .lst [.str "worths", x])
def cPair (f : D × NK) (bad : D) : Cas := (.dct [f.2] [bad], .lst [.str "pair", f.1])
def cNum (f : D × NK) (bad : D) : Cas := (.dct [aaK, f.2] [bad, .int 1], .lst [.str "number", bad])
def cOne : Cas := cOdd (.dct [aaK] [.int 1])
def cNil : Cas := cOdd (.dct [] [])
def StOk (t : D) (c : Cas) : Prop := ∀ (S : Sto) (z0 z4 z5 z6 z7 z8 z11 z12 : Option W),
  b__law_values_right_3 csK [z0, some (.d hA), some (.d (wiD t)), some (.d hB), z4, z5, z6, z7, z8, some (.d c.1), some (.d c.2), z11, z12] S =
    .nx [z0, some (.d hA), some (.d (wiD t)), some (.d hB), z4, z5, z6, z7, z8, some (.d c.1), some (.d c.2), some (.d (.int 5)), z12] S
theorem st_one (t : D) : StOk t cOne := fun S z0 z4 z5 z6 z7 z8 z11 z12 => by kernel_rfl
theorem st_nil (t : D) : StOk t cNil := fun S z0 z4 z5 z6 z7 z8 z11 z12 => by kernel_rfl
theorem st_same (t : D) : StOk t (cOdd sameD) := fun S z0 z4 z5 z6 z7 z8 z11 z12 => by kernel_rfl
theorem st_odd (t : D) : ∀ x ∈ oddL, StOk t (cOdd x) := by
  simp only [oddL, List.forall_mem_cons]
  refine ⟨?_, ?_, ?_, ?_, ?_, fun x h => nomatch h⟩ <;> exact fun S z0 z4 z5 z6 z7 z8 z11 z12 => by kernel_rfl
theorem st_pair (t : D) : ∀ f ∈ farL, ∀ bad : D, StOk t (cPair f bad) := by
  simp only [farL, List.forall_mem_cons]
  refine ⟨?_, ?_, ?_, ?_, ?_, ?_, fun x h => nomatch h⟩ <;> exact fun bad S z0 z4 z5 z6 z7 z8 z11 z12 => by kernel_rfl
theorem st_num (t : D) : ∀ f ∈ farL, ∀ bad ∈ badL, StOk t (cNum f bad) := by
  simp only [farL, badL, List.forall_mem_cons]
  refine ⟨⟨?_, ?_, ?_, ?_, ?_, ?_, fun x h => nomatch h⟩, ⟨?_, ?_, ?_, ?_, ?_, ?_, fun x h => nomatch h⟩, ⟨?_, ?_, ?_, ?_, ?_, ?_, fun x h => nomatch h⟩, ⟨?_, ?_, ?_, ?_, ?_, ?_, fun x h => nomatch h⟩, ⟨?_, ?_, ?_, ?_, ?_, ?_, fun x h => nomatch h⟩, ⟨?_, ?_, ?_, ?_, ?_, ?_, fun x h => nomatch h⟩, fun x h => nomatch h⟩ <;> exact fun S z0 z4 z5 z6 z7 z8 z11 z12 => by kernel_rfl
def tabW (j : Nat) (r : Rat) : D := .dct [aaK, abK, acK] (match j with
  | 0 => [.rat r, .rat (mkR 0 1), .rat (mkR 0 1)]
  | 1 => [.rat (mkR 0 1), .rat r, .rat (mkR 0 1)]
  | _ => [.rat (mkR 0 1), .rat (mkR 0 1), .rat r])
def numL : List Rat := [mkR 1 1, mkR 1 2, mkR 1 3, mkR 1 4, mkR 1 5, mkR 1 6, mkR 1 7, mkR 1 8, mkR 1 9]
def plL : List Nat := [0, 1, 2]
theorem st_wish : ∀ j ∈ plL, ∀ r ∈ numL, StOk (tabW j r) (cOdd (wiD (tabW j r))) := by
  simp only [plL, numL, List.forall_mem_cons]
  refine ⟨⟨?_, ?_, ?_, ?_, ?_, ?_, ?_, ?_, ?_, fun x h => nomatch h⟩, ⟨?_, ?_, ?_, ?_, ?_, ?_, ?_, ?_, ?_, fun x h => nomatch h⟩, ⟨?_, ?_, ?_, ?_, ?_, ?_, ?_, ?_, ?_, fun x h => nomatch h⟩, fun x h => nomatch h⟩ <;> exact fun S z0 z4 z5 z6 z7 z8 z11 z12 => by kernel_rfl
end Mi
set_option Elab.async false
set_option linter.all false
set_option maxRecDepth 100000
set_option maxHeartbeats 4000000
namespace Mi
open PySem PySem.Spec PyProof.Rows L2 He Wl
def vS1 (cs : List Str) : MS := asS (oM qIX (lsM (aC (tpM (aC (cM (.str "ann")) (aC (cM (.str "zz")) aN))) (aC (cM (.int 5)) (aC (cM (.str "x")) (aC (tpM (aC (cM (.str "bob")) (aC (cM (.str "b")) aN))) (aC (tpM aN) (aC (cM .non) aN))))))) (apM (callO (m__law_take cs)) (aC (vM 0) (aC (cM (.int 6)) aN)))) (gN 4)
def vS2 (cs : List Str) : MS := asS (oM qIX (lsM (aC (uM qNegI (cM (.int 1))) (aC (apM (newR cs) (aC (uM qNegI (cM (.int 1))) (aC (cM (.int 2)) aN))) (aC (cM (.bl true)) (aC (cM .non) (aC (cM (.str "1")) (aC (lsM (aC (cM (.int 1)) aN)) aN))))))) (apM (callO (m__law_take cs)) (aC (vM 0) (aC (cM (.int 6)) aN)))) (gN 5)
def vS3 (cs : List Str) : MS := asS (oM qIX (lsM (aC (cM .non) (aC (cM (.int 5)) (aC (cM (.str "x")) (aC (lsM aN) (aC (lsM (aC (tpM (aC (cM (.str "ann")) (aC (cM (.str "a")) aN))) aN)) (aC (vM 2) aN))))))) (apM (callO (m__law_take cs)) (aC (vM 0) (aC (cM (.int 6)) aN)))) (gN 6)
def vS4 (cs : List Str) : MS := asS (fzM (dispM [((tpM (aC (cM (.str "ann")) (aC (cM (.str "a")) aN))), (cM (.int 1))), ((tpM (aC (cM (.str "ann")) (aC (cM (.str "c")) aN))), (apM (newR1 cs) (aC (cM (.int 1)) aN))), ((tpM (aC (cM (.str "ann")) (aC (cM (.str "b")) aN))), (cM (.int 2)))])) (gN 7)
def vS5 (cs : List Str) : MS := asS (lsM (aC (tpM (aC (vM 6) (aC (lsM (aC (cM (.str "worths")) (aC (vM 6) aN))) aN))) (aC (tpM (aC (fzM (dispM [((vM 4), (vM 5))])) (aC (lsM (aC (cM (.str "pair")) (aC (vM 4) aN))) aN))) (aC (tpM (aC (fzM (dispM [((tpM (aC (cM (.str "ann")) (aC (cM (.str "a")) aN))), (vM 5)), ((vM 4), (cM (.int 1)))])) (aC (lsM (aC (cM (.str "number")) (aC (vM 5) aN))) aN))) aN)))) (gN 8)
def vS6 (cs : List Str) : MS := asS (oM qADD (vM 8) (lsM (aC (tpM (aC (vM 7) (aC (lsM (aC (cM (.str "worths")) (aC (vM 7) aN))) aN))) (aC (tpM (aC (fzM (d1M (tpM (aC (cM (.str "ann")) (aC (cM (.str "a")) aN))) (cM (.int 1)))) (aC (lsM (aC (cM (.str "worths")) (aC (fzM (d1M (tpM (aC (cM (.str "ann")) (aC (cM (.str "a")) aN))) (cM (.int 1)))) aN))) aN))) (aC (tpM (aC (fzM dnM) (aC (lsM (aC (cM (.str "worths")) (aC (fzM dnM) aN))) aN))) aN))))) (gN 8)
def vS7 (cs : List Str) : MS := foS (itM (vM 8)) (gT 2 (gsC (gN 9) (gsC (gN 10) gsN))) (b__law_values_right_3 cs)
def vS8 (cs : List Str) : MS := asS (apM (newP "Wish" (m_Wish___init__ cs)) (aC (vM 3) (aC (fzM dnM) aN))) (gN 12)
def vS9 (cs : List Str) : MS := asS (lsM (aC (tpM (aC (fzM (d1M (tpM (aC (cM (.str "ann")) (aC (cM (.str "b")) aN))) (cM (.int 1)))) (aC (lsM (aC (cM (.str "tied")) aN)) aN))) (aC (tpM (aC (fzM dnM) (aC (lsM (aC (cM (.str "worths")) (aC (fzM dnM) aN))) aN))) (aC (tpM (aC (fzM (d1M (tpM (aC (cM (.str "bob")) (aC (cM (.str "a")) aN))) (vM 5))) (aC (lsM (aC (cM (.str "number")) (aC (vM 5) aN))) aN))) aN)))) (gN 8)
def vS10 (cs : List Str) : MS := foS (itM (oM qADD (vM 8) (lsM (aC (tpM (aC (fzM (d1M (tpM (aC (cM (.str "bob")) (aC (cM (.str "a")) aN))) (cM (.int 1)))) (aC (lsM (aC (cM (.str "worths")) (aC (fzM (d1M (tpM (aC (cM (.str "bob")) (aC (cM (.str "a")) aN))) (cM (.int 1)))) aN))) aN))) aN)))) (gT 2 (gsC (gN 9) (gsC (gN 10) gsN))) (b__law_values_right_1 cs)
def vS11 (cs : List Str) : MS := rtS (oM qEq (apM (callP (m__law_caught cs)) (aC (cM (.int 6)) (aC (vM 3) (aC (cM .non) (aC (fzM (d1M (tpM (aC (cM (.str "bob")) (aC (cM (.str "a")) aN))) (uM qNegI (cM (.int 5))))) aN))))) (lsM (aC (cM (.str "fine")) aN)))
theorem vS_def (cs : List Str) : m__law_values_right cs = defM 4 9 (seqS (vS1 cs) (seqS (vS2 cs) (seqS (vS3 cs) (seqS (vS4 cs) (seqS (vS5 cs) (seqS (vS6 cs) (seqS (vS7 cs) (seqS (vS8 cs) (seqS (vS9 cs) (seqS (vS10 cs) (vS11 cs))))))))))) := rfl
def casesV (f : D × NK) (bad odd : D) : List Cas := [cOdd odd, cPair f bad, cNum f bad, cOdd sameD, cOne, cNil]
def gV (f : D × NK) (bad : D) : Sto := [.fz sameD, .fz (.dct [f.2] [bad]), .fz (.dct [aaK, f.2] [bad, .int 1]), .fz (.dct [aaK] [.int 1]), .fz (.dct [aaK] [.int 1]), .fz (.dct [] []), .fz (.dct [] [])]
theorem v_build (t odd : D) (o : O) : ∀ f ∈ farL, ∀ bad : D, seqS (vS4 csK) (seqS (vS5 csK) (vS6 csK)) [some (.loc 0), some (.d hA), some (.d (wiD t)), some (.d hB), some (.d f.1), some (.d bad), some (.d odd), none, none, none, none, none, none] [o] =
    .nx [some (.loc 0), some (.d hA), some (.d (wiD t)), some (.d hB), some (.d f.1), some (.d bad), some (.d odd), some (.d sameD), some (.d (.lst ((casesV f bad odd).map csD))), none, none, none, none] (o :: gV f bad) := by
  simp only [farL, List.forall_mem_cons]
  refine ⟨?_, ?_, ?_, ?_, ?_, ?_, fun x h => nomatch h⟩ <;> exact fun bad => by kernel_rfl
theorem v_end (t : D) (o o1 o2 o3 o4 o5 o6 o7 : O) (z0 z4 z6 z7 z8 z9 z10 z11 z12 : Option W) : ∀ bad ∈ badL, ∃ G, seqS (vS8 csK) (seqS (vS9 csK) (seqS (vS10 csK) (vS11 csK))) [z0, some (.d hA), some (.d (wiD t)), some (.d hB), z4, some (.d bad), z6, z7, z8, z9, z10, z11, z12] [o, o1, o2, o3, o4, o5, o6, o7] =
    .rt (.d (.bl true)) ([o, o1, o2, o3, o4, o5, o6, o7] ++ G) := by
  have key : ∀ bad ∈ badL, seqS (vS8 csK) (seqS (vS9 csK) (seqS (vS10 csK) (vS11 csK))) [z0, some (.d hA), some (.d (wiD t)), some (.d hB), z4, some (.d bad), z6, z7, z8, z9, z10, z11, z12] [o, o1, o2, o3, o4, o5, o6, o7] =
      .rt (.d (.bl true)) ([o, o1, o2, o3, o4, o5, o6, o7] ++ [.fz (.dct [] []), .fz (.dct [abK] [.int 1]), .fz (.dct [] []), .fz (.dct [] []), .fz (.dct [baK] [bad]), .fz (.dct [baK] [.int 1]), .fz (.dct [baK] [.int 1]), .fz (.dct [baK] [.int (-5)])]) := by
    simp only [badL, List.forall_mem_cons]
    refine ⟨?_, ?_, ?_, ?_, ?_, ?_, fun x h => nomatch h⟩ <;> kernel_rfl
  exact fun bad hb => ⟨_, key bad hb⟩
theorem pickO {m : ME} {l : List D} {τ : Sl} {k : Nat} {o : O} {G G1 : Sto} {c : Int} (hm : m τ (o :: G) = .ok (.d (.lst l)) (o :: G1)) (h0 : τ[0]? = some (some (.loc 0))) (hc : c = (l.length : Nat)) (hp : 0 < l.length) (hl : l.length ≤ 1000) (hb : BagOk k o) (hk : k + 1 ≤ 2 ^ 40) :
    ∃ (o' : O) (y : D), oM qIX m (apM (callO (m__law_take csK)) (aC (vM 0) (aC (cM (.int c)) aN))) τ (o :: G) = .ok (.d y) (o' :: G1) ∧ BagOk (k + 1) o' ∧ y ∈ l := by
  subst hc
  obtain ⟨o', j, e, hb', hj⟩ := take_at (cs := csK) (n := l.length) (G := G1) hb hk hp (Nat.lt_of_le_of_lt hl (by decide))
  refine ⟨o', l[j], ?_, hb', List.getElem_mem hj⟩
  have ix : run qIX [.d (.lst l), .d (.int (j : Nat))] (o' :: G1) = .ok (.d l[j]) (o' :: G1) := run_ixN (List.getElem?_eq_getElem hj)
  simp only [oM, hm, Res.bind_ok, apM, aC, aN, vM_ap, cM_ap, h0, e, ix]
theorem as_of {m : ME} {i : Nat} {τ : Sl} {S S' : Sto} {y : D} (h : m τ S = .ok (.d y) S') : asS m (gN i) τ S = .nx (τ.set i (some (.d y))) S' := by
  simp only [asS, h, Res.out_ok, gN]
theorem v_cases (t : D) : ∀ (L : List Cas) (S : Sto) (z0 z4 z5 z6 z7 z8 z9 z10 z11 z12 : Option W), (∀ c ∈ L, StOk t c) → ∃ z9' z10' z11', loopS (gT 2 (gsC (gN 9) (gsC (gN 10) gsN))) (b__law_values_right_3 csK) ((L.map csD).map .d) [z0, some (.d hA), some (.d (wiD t)), some (.d hB), z4, z5, z6, z7, z8, z9, z10, z11, z12] S =
    .nx [z0, some (.d hA), some (.d (wiD t)), some (.d hB), z4, z5, z6, z7, z8, z9', z10', z11', z12] S
  | [], S, z0, z4, z5, z6, z7, z8, z9, z10, z11, z12, _ => ⟨z9, z10, z11, rfl⟩
  | c :: L, S, z0, z4, z5, z6, z7, z8, z9, z10, z11, z12, h => by
    obtain ⟨a9, a10, a11, ih⟩ := v_cases t L S z0 z4 z5 z6 z7 z8 (some (.d c.1)) (some (.d c.2)) (some (.d (.int 5))) z12 fun x hx => h x (List.mem_cons_of_mem _ hx)
    exact ⟨a9, a10, a11, by rw [List.map_cons, List.map_cons, loop_step rfl (h c List.mem_cons_self S z0 z4 z5 z6 z7 z8 z11 z12)]; exact ih⟩
theorem values_bfn {j : Nat} {r : Rat} (hj : j ∈ plL) (hr : r ∈ numL) : BFn 3 (m__law_values_right csK) [hA, wiD (tabW j r), hB] (fun y => y = .bl true) := fun k o hb hk => by
  have hw := st_wish j hj r hr
  generalize tabW j r = t at hw ⊢
  obtain ⟨o1, far, e1, b1, hf⟩ := pickO (l := farL.map (·.1)) (m := lsM (aC (tpM (aC (cM (.str "ann")) (aC (cM (.str "zz")) aN))) (aC (cM (.int 5)) (aC (cM (.str "x")) (aC (tpM (aC (cM (.str "bob")) (aC (cM (.str "b")) aN))) (aC (tpM aN) (aC (cM .non) aN)))))))
    (τ := [some (.loc 0), some (.d hA), some (.d (wiD t)), some (.d hB), none, none, none, none, none, none, none, none, none]) (c := 6) (o := o) (G := []) (G1 := []) (by kernel_rfl) rfl rfl (by decide) (by decide) hb (by omega)
  have s1 := as_of (i := 4) e1
  obtain ⟨f, hf', rfl⟩ := List.mem_map.mp hf
  obtain ⟨o2, bad, e2, b2, hbad⟩ := pickO (l := badL) (m := lsM (aC (uM qNegI (cM (.int 1))) (aC (apM (newR csK) (aC (uM qNegI (cM (.int 1))) (aC (cM (.int 2)) aN))) (aC (cM (.bl true)) (aC (cM .non) (aC (cM (.str "1")) (aC (lsM (aC (cM (.int 1)) aN)) aN)))))))
    (τ := [some (.loc 0), some (.d hA), some (.d (wiD t)), some (.d hB), some (.d f.1), none, none, none, none, none, none, none, none]) (c := 6) (o := o1) (G := []) (G1 := []) (by kernel_rfl) rfl rfl (by decide) (by decide) b1 (by omega)
  have s2 := as_of (i := 5) e2
  obtain ⟨o3, odd, e3, b3, hodd⟩ := pickO (l := oddL ++ [wiD t]) (m := lsM (aC (cM .non) (aC (cM (.int 5)) (aC (cM (.str "x")) (aC (lsM aN) (aC (lsM (aC (tpM (aC (cM (.str "ann")) (aC (cM (.str "a")) aN))) aN)) (aC (vM 2) aN)))))))
    (τ := [some (.loc 0), some (.d hA), some (.d (wiD t)), some (.d hB), some (.d f.1), some (.d bad), none, none, none, none, none, none, none]) (c := 6) (o := o2) (G := []) (G1 := []) (by kernel_rfl) rfl rfl (by simp [oddL]) (by simp [oddL]) b2 (by omega)
  have s3 := as_of (i := 6) e3
  have s4 := v_build t odd o3 f hf' bad
  have ok : ∀ c ∈ casesV f bad odd, StOk t c := by
    intro c hc
    simp only [casesV, List.mem_cons, List.not_mem_nil, or_false] at hc
    rcases hc with rfl | rfl | rfl | rfl | rfl | rfl
    · rw [List.mem_append, List.mem_singleton] at hodd
      rcases hodd with h | rfl
      · exact st_odd t odd h
      · exact hw
    · exact st_pair t f hf' bad
    · exact st_num t f hf' bad hbad
    · exact st_same t
    · exact st_one t
    · exact st_nil t
  obtain ⟨a9, a10, a11, e7⟩ := v_cases t (casesV f bad odd) (o3 :: gV f bad) (some (.loc 0)) (some (.d f.1)) (some (.d bad)) (some (.d odd)) (some (.d sameD)) (some (.d (.lst ((casesV f bad odd).map csD)))) none none none none ok
  have s7 : vS7 csK [some (.loc 0), some (.d hA), some (.d (wiD t)), some (.d hB), some (.d f.1), some (.d bad), some (.d odd), some (.d sameD), some (.d (.lst ((casesV f bad odd).map csD))), none, none, none, none] (o3 :: gV f bad) = _ := e7
  obtain ⟨G, s8⟩ := v_end t o3 (.fz sameD) (.fz (.dct [f.2] [bad])) (.fz (.dct [aaK, f.2] [bad, .int 1])) (.fz (.dct [aaK] [.int 1])) (.fz (.dct [aaK] [.int 1])) (.fz (.dct [] [])) (.fz (.dct [] [])) (some (.loc 0)) (some (.d f.1)) (some (.d odd)) (some (.d sameD)) (some (.d (.lst ((casesV f bad odd).map csD)))) a9 a10 a11 none bad hbad
  refine ⟨.d (.bl true), o3, gV f bad ++ G, .bl true, ?_, b3, rfl, rfl⟩
  rw [vS_def]
  simp only [List.map_cons, List.map_nil, defM, List.length_cons, List.length_nil, if_true, List.replicate, List.cons_append, List.nil_append]
  have z : seqS (vS4 csK) (seqS (vS5 csK) (seqS (vS6 csK) (seqS (vS7 csK) (seqS (vS8 csK) (seqS (vS9 csK) (seqS (vS10 csK) (vS11 csK))))))) [some (.loc 0), some (.d hA), some (.d (wiD t)), some (.d hB), some (.d f.1), some (.d bad), some (.d odd), none, none, none, none, none, none] [o3] = .rt (.d (.bl true)) (o3 :: (gV f bad ++ G)) := by
    have as : ∀ (a b c d : MS) (τ : Sl) (S : Sto), seqS a (seqS b (seqS c d)) τ S = seqS (seqS a (seqS b c)) d τ S := fun a b c d τ S => by
      unfold seqS
      cases a τ S with
      | nx τ1 S1 => dsimp only; cases b τ1 S1 <;> rfl
      | _ => rfl
    rw [as, sq_nx s4, sq_nx s7]
    exact s8
  exact (sq_nx s1).trans ((sq_nx s2).trans ((sq_nx s3).trans z)) ▸ rfl
end Mi
set_option Elab.async false
set_option linter.all false
set_option maxRecDepth 100000
set_option maxHeartbeats 4000000
namespace Mi
open PySem PySem.Spec PyProof.Rows L2 He Wl
def pR1 (cs : List Str) : MS := asS (oM qIX (lsM (aC (tpM (aC (cM (.str "ann")) (aC (cM (.str "zz")) aN))) (aC (cM (.int 5)) (aC (cM (.str "x")) (aC (tpM (aC (cM (.str "bob")) (aC (cM (.str "a")) aN))) (aC (tpM aN) (aC (cM .non) aN))))))) (apM (callO (m__law_take cs)) (aC (vM 0) (aC (cM (.int 6)) aN)))) (gN 3)
def pR2 (cs : List Str) : MS := paS 4 5 (aC (oM qIX (lsM (aC (cM (.bl true)) (aC (cM .non) (aC (cM (.str "1")) (aC (lsM (aC (cM (.int 1)) aN)) (aC (fzM dnM) aN)))))) (apM (callO (m__law_take cs)) (aC (vM 0) (aC (cM (.int 5)) aN)))) (aC (oM qIX (lsM (aC (cM .non) (aC (cM (.int 5)) (aC (cM (.str "x")) (aC (lsM aN) (aC (vM 2) aN)))))) (apM (callO (m__law_take cs)) (aC (vM 0) (aC (cM (.int 5)) aN)))) aN))
def pR3 (cs : List Str) : MS := asS (fzM (dispM [((tpM (aC (cM (.str "ann")) (aC (cM (.str "b")) aN))), (cM (.int 1))), ((tpM (aC (cM (.str "ann")) (aC (cM (.str "c")) aN))), (cM (.int 2)))])) (gN 6)
def pR4 (cs : List Str) : MS := asS (lsM (aC (tpM (aC (vM 5) (aC (lsM (aC (cM (.str "worths")) (aC (vM 5) aN))) aN))) (aC (tpM (aC (fzM (dispM [((vM 3), (vM 4))])) (aC (lsM (aC (cM (.str "pair")) (aC (vM 3) aN))) aN))) (aC (tpM (aC (fzM (dispM [((tpM (aC (cM (.str "ann")) (aC (cM (.str "a")) aN))), (vM 4)), ((vM 3), (cM (.int 1)))])) (aC (lsM (aC (cM (.str "number")) (aC (vM 4) aN))) aN))) aN)))) (gN 7)
def pR5 (cs : List Str) : MS := foS (itM (oM qADD (vM 7) (lsM (aC (tpM (aC (fzM (dispM [((tpM (aC (cM (.str "ann")) (aC (cM (.str "c")) aN))), (uM qNegI (cM (.int 3)))), ((vM 3), (cM (.int 1)))])) (aC (lsM (aC (cM (.str "pair")) (aC (vM 3) aN))) aN))) aN)))) (gT 2 (gsC (gN 8) (gsC (gN 9) gsN))) (b__law_paid_right_2 cs)
def pR6 (cs : List Str) : MS := asS (loM (aC (cM (.int 5)) aN)) (gN 11)
def pR7 (cs : List Str) : MS := asS (apM (m__law_caught cs) (aC (cM (.int 5)) (aC (vM 1) (aC (vM 11) (aC (cM .non) aN))))) (gN 12)
def pR8 (cs : List Str) : MS := exS (bmM tyL qAppend (vM 11) (aC (cM (.int 6)) aN))
def pR9 (cs : List Str) : MS := (fvS 12 (ifS (tsM (oM qNe (vM 12) (lsM (aC (cM (.str "worths")) (aC (lsM (aC (cM (.int 5)) (aC (cM (.int 6)) aN))) aN))))) (rtS (cM (.bl false))) ((fun τ S => .nx τ S))))
def pR10 (cs : List Str) : MS := asS (oM qIX (lsM (aC (cM .non) (aC (cM (.int 5)) (aC (cM (.str "x")) (aC (fzM dnM) (aC (tpM (aC (cM (.str "ann")) (aC (cM (.str "a")) aN))) aN)))))) (apM (callO (m__law_take cs)) (aC (vM 0) (aC (cM (.int 5)) aN)))) (gN 13)
def pR11 (cs : List Str) : MS := foS (rg1 (aC (cM (.int 7)) aN)) (gN 10) (b__law_paid_right_0 cs)
def pR12 (cs : List Str) : MS := rtS (byM (oM (orQ qEq (qEqX (xoHW cs))) (apM (callP (m__law_caught cs)) (aC (cM (.int 0)) (aC (vM 1) (aC (cM .non) (aC (cM .non) aN))))) (lsM (aC (cM (.str "wish")) (aC (vM 1) aN)))) (oM (orQ qEq (qEqX (xoHW cs))) (apM (callP (m__law_caught cs)) (aC (cM (.int 4)) (aC (vM 2) (aC (cM .non) (aC (cM .non) aN))))) (lsM (aC (cM (.str "house")) (aC (vM 2) aN)))) (cM (.bl false)))
theorem pR_def (cs : List Str) : m__law_paid_right cs = defM 3 11 (seqS (pR1 cs) (seqS (pR2 cs) (seqS (pR3 cs) (seqS (pR4 cs) (seqS (pR5 cs) (seqS (pR6 cs) (seqS (pR7 cs) (seqS (pR8 cs) (seqS (pR9 cs) (seqS (pR10 cs) (seqS (pR11 cs) (pR12 cs)))))))))))) := rfl
def farP : List (D × NK) := [(.tup [.str "ann", .str "zz"], .tup [.text "ann", .text "zz"]), (.int 5, .num 5), (.str "x", .text "x"), (.tup [.str "bob", .str "a"], .tup [.text "bob", .text "a"]), (.tup [], .tup []), (.non, .none)]
def badP : List D := [.bl true, .non, .str "1", .lst [.int 1], .dct [] []]
def oddP : List D := [.non, .int 5, .str "x", .lst []]
def valD : D := .dct [abK, acK] [.int 1, .int 2]
def cLast (f : D × NK) : Cas := (.dct [acK, f.2] [.int (-3), .int 1], .lst [.str "pair", f.1])
def PtOk (t : D) (c : Cas) : Prop := ∀ (S : Sto) (z0 z3 z4 z5 z7 z10 z11 z12 z13 : Option W),
  b__law_paid_right_2 csK [z0, some (.d hA), some (.d (wiD t)), z3, z4, z5, some (.d valD), z7, some (.d c.1), some (.d c.2), z10, z11, z12, z13] S =
    .nx [z0, some (.d hA), some (.d (wiD t)), z3, z4, z5, some (.d valD), z7, some (.d c.1), some (.d c.2), some (.d (.int 6)), z11, z12, z13] S
theorem pt_odd (t : D) : ∀ x ∈ oddP, PtOk t (cOdd x) := by
  simp only [oddP, List.forall_mem_cons]
  refine ⟨?_, ?_, ?_, ?_, fun x h => nomatch h⟩ <;> exact fun S z0 z3 z4 z5 z7 z10 z11 z12 z13 => by kernel_rfl
theorem pt_wish : ∀ j ∈ plL, ∀ r ∈ numL, PtOk (tabW j r) (cOdd (wiD (tabW j r))) := by
  simp only [plL, numL, List.forall_mem_cons]
  refine ⟨⟨?_, ?_, ?_, ?_, ?_, ?_, ?_, ?_, ?_, fun x h => nomatch h⟩, ⟨?_, ?_, ?_, ?_, ?_, ?_, ?_, ?_, ?_, fun x h => nomatch h⟩, ⟨?_, ?_, ?_, ?_, ?_, ?_, ?_, ?_, ?_, fun x h => nomatch h⟩, fun x h => nomatch h⟩ <;> exact fun S z0 z3 z4 z5 z7 z10 z11 z12 z13 => by kernel_rfl
theorem pt_pair (t : D) : ∀ f ∈ farP, ∀ bad : D, PtOk t (cPair f bad) := by
  simp only [farP, List.forall_mem_cons]
  refine ⟨?_, ?_, ?_, ?_, ?_, ?_, fun x h => nomatch h⟩ <;> exact fun bad S z0 z3 z4 z5 z7 z10 z11 z12 z13 => by kernel_rfl
theorem pt_last (t : D) : ∀ f ∈ farP, PtOk t (cLast f) := by
  simp only [farP, List.forall_mem_cons]
  refine ⟨?_, ?_, ?_, ?_, ?_, ?_, fun x h => nomatch h⟩ <;> exact fun S z0 z3 z4 z5 z7 z10 z11 z12 z13 => by kernel_rfl
theorem pt_num (t : D) : ∀ f ∈ farP, ∀ bad ∈ badP, PtOk t (cNum f bad) := by
  simp only [farP, badP, List.forall_mem_cons]
  refine ⟨⟨?_, ?_, ?_, ?_, ?_, fun x h => nomatch h⟩, ⟨?_, ?_, ?_, ?_, ?_, fun x h => nomatch h⟩, ⟨?_, ?_, ?_, ?_, ?_, fun x h => nomatch h⟩, ⟨?_, ?_, ?_, ?_, ?_, fun x h => nomatch h⟩, ⟨?_, ?_, ?_, ?_, ?_, fun x h => nomatch h⟩, ⟨?_, ?_, ?_, ?_, ?_, fun x h => nomatch h⟩, fun x h => nomatch h⟩ <;> exact fun S z0 z3 z4 z5 z7 z10 z11 z12 z13 => by kernel_rfl
def casesP (f : D × NK) (bad odd : D) : List Cas := [cOdd odd, cPair f bad, cNum f bad]
def gP (f : D × NK) (bad : D) : Sto := [.fz (.dct [] []), .fz valD, .fz (.dct [f.2] [bad]), .fz (.dct [aaK, f.2] [bad, .int 1])]
theorem p_build (t odd : D) (o : O) : ∀ f ∈ farP, ∀ bad : D, seqS (pR3 csK) (pR4 csK) [some (.loc 0), some (.d hA), some (.d (wiD t)), some (.d f.1), some (.d bad), some (.d odd), none, none, none, none, none, none, none, none] [o, .fz (.dct [] [])] =
    .nx [some (.loc 0), some (.d hA), some (.d (wiD t)), some (.d f.1), some (.d bad), some (.d odd), some (.d valD), some (.d (.lst ((casesP f bad odd).map csD))), none, none, none, none, none, none] (o :: gP f bad) := by
  simp only [farP, List.forall_mem_cons]
  refine ⟨?_, ?_, ?_, ?_, ?_, ?_, fun x h => nomatch h⟩ <;> exact fun bad => by kernel_rfl
def hdP : MA := itM (oM qADD (vM 7) (lsM (aC (tpM (aC (fzM (dispM [((tpM (aC (cM (.str "ann")) (aC (cM (.str "c")) aN))), (uM qNegI (cM (.int 3)))), ((vM 3), (cM (.int 1)))])) (aC (lsM (aC (cM (.str "pair")) (aC (vM 3) aN))) aN))) aN)))
theorem p_head (t odd : D) (o : O) : ∀ f ∈ farP, ∀ bad : D, hdP [some (.loc 0), some (.d hA), some (.d (wiD t)), some (.d f.1), some (.d bad), some (.d odd), some (.d valD), some (.d (.lst ((casesP f bad odd).map csD))), none, none, none, none, none, none] (o :: gP f bad) =
    .ok (((casesP f bad odd ++ [cLast f]).map csD).map .d) (o :: (gP f bad ++ [.fz (.dct [acK, f.2] [.int (-3), .int 1])])) := by
  simp only [farP, List.forall_mem_cons]
  refine ⟨?_, ?_, ?_, ?_, ?_, ?_, fun x h => nomatch h⟩ <;> exact fun bad => by kernel_rfl
theorem p_cases (t : D) : ∀ (L : List Cas) (S : Sto) (z0 z3 z4 z5 z7 z8 z9 z10 z11 z12 z13 : Option W), (∀ c ∈ L, PtOk t c) → ∃ z8' z9' z10', loopS (gT 2 (gsC (gN 8) (gsC (gN 9) gsN))) (b__law_paid_right_2 csK) ((L.map csD).map .d) [z0, some (.d hA), some (.d (wiD t)), z3, z4, z5, some (.d valD), z7, z8, z9, z10, z11, z12, z13] S =
    .nx [z0, some (.d hA), some (.d (wiD t)), z3, z4, z5, some (.d valD), z7, z8', z9', z10', z11, z12, z13] S
  | [], S, z0, z3, z4, z5, z7, z8, z9, z10, z11, z12, z13, _ => ⟨z8, z9, z10, rfl⟩
  | c :: L, S, z0, z3, z4, z5, z7, z8, z9, z10, z11, z12, z13, h => by
    obtain ⟨a8, a9, a10, ih⟩ := p_cases t L S z0 z3 z4 z5 z7 (some (.d c.1)) (some (.d c.2)) (some (.d (.int 6))) z11 z12 z13 fun x hx => h x (List.mem_cons_of_mem _ hx)
    exact ⟨a8, a9, a10, by rw [List.map_cons, List.map_cons, loop_step rfl (h c List.mem_cons_self S z0 z3 z4 z5 z7 z10 z11 z12 z13)]; exact ih⟩
def stOf : Out → Sto
  | .nx _ S => S
  | .rt _ S => S
  | _ => []
def toldD : D := .lst [.str "worths", .lst [.int 5, .int 6]]
theorem p_thing (t : D) (a b c : Int) (d1 d2 d3 d4 d5 : D) (z0 z3 z4 z5 z6 z7 z8 z9 z10 : Option W) : ∃ G, seqS (pR6 csK) (seqS (pR7 csK) (seqS (pR8 csK) (pR9 csK))) [z0, some (.d hA), some (.d (wiD t)), z3, z4, z5, z6, z7, z8, z9, z10, none, none, none] [LO [.int a, .int b, .int c], .fz d1, .fz d2, .fz d3, .fz d4, .fz d5] =
    .nx [z0, some (.d hA), some (.d (wiD t)), z3, z4, z5, z6, z7, z8, z9, z10, some (.loc 6), some (.d toldD), none] (LO [.int a, .int b, .int c] :: G) := by
  refine ⟨(stOf (seqS (pR6 csK) (seqS (pR7 csK) (seqS (pR8 csK) (pR9 csK))) [z0, some (.d hA), some (.d (wiD t)), z3, z4, z5, z6, z7, z8, z9, z10, none, none, none] [LO [.int a, .int b, .int c], .fz d1, .fz d2, .fz d3, .fz d4, .fz d5])).tail, ?_⟩
  kernel_rfl
def wrongP : List D := [.non, .int 5, .str "x", .dct [] [], aa]
theorem p_wrong (t : D) (S : Sto) (z0 z3 z4 z5 z6 z7 z8 z9 z10 z11 z12 : Option W) : ∀ y ∈ wrongP, pR11 csK [z0, some (.d hA), some (.d (wiD t)), z3, z4, z5, z6, z7, z8, z9, z10, z11, z12, some (.d y)] S =
    .nx [z0, some (.d hA), some (.d (wiD t)), z3, z4, z5, z6, z7, z8, z9, some (.d (.int 6)), z11, z12, some (.d y)] S := by
  simp only [wrongP, List.forall_mem_cons]
  refine ⟨?_, ?_, ?_, ?_, ?_, fun x h => nomatch h⟩ <;> kernel_rfl
theorem p_end (S : Sto) (z0 z3 z4 z5 z6 z7 z8 z9 z10 z11 z12 z13 : Option W) : ∀ j ∈ plL, ∀ r ∈ numL, pR12 csK [z0, some (.d hA), some (.d (wiD (tabW j r))), z3, z4, z5, z6, z7, z8, z9, z10, z11, z12, z13] S = .rt (.d (.bl true)) S := by
  simp only [plL, numL, List.forall_mem_cons]
  refine ⟨⟨?_, ?_, ?_, ?_, ?_, ?_, ?_, ?_, ?_, fun x h => nomatch h⟩, ⟨?_, ?_, ?_, ?_, ?_, ?_, ?_, ?_, ?_, fun x h => nomatch h⟩, ⟨?_, ?_, ?_, ?_, ?_, ?_, ?_, ?_, ?_, fun x h => nomatch h⟩, fun x h => nomatch h⟩ <;> kernel_rfl
end Mi
set_option Elab.async false
set_option linter.all false
set_option maxRecDepth 100000
set_option maxHeartbeats 4000000
namespace Mi
open PySem PySem.Spec PyProof.Rows L2 He Wl
theorem as4 (a b c d e : MS) (τ : Sl) (S : Sto) : seqS a (seqS b (seqS c (seqS d e))) τ S = seqS (seqS a (seqS b (seqS c d))) e τ S := by
  unfold seqS
  cases a τ S with
  | nx τ1 S1 =>
    dsimp only
    cases b τ1 S1 with
    | nx τ2 S2 => dsimp only; cases c τ2 S2 <;> rfl
    | _ => rfl
  | _ => rfl
theorem as2 (a b c : MS) (τ : Sl) (S : Sto) : seqS a (seqS b c) τ S = seqS (seqS a b) c τ S := by
  unfold seqS
  cases a τ S <;> rfl
theorem paid_bfn {j : Nat} {r : Rat} (hj : j ∈ plL) (hr : r ∈ numL) : BFn 4 (m__law_paid_right csK) [hA, wiD (tabW j r)] (fun y => y = .bl true) := fun k o hb hk => by
  have hw := pt_wish j hj r hr
  have hend := fun S z0 z3 z4 z5 z6 z7 z8 z9 z10 z11 z12 z13 => p_end S z0 z3 z4 z5 z6 z7 z8 z9 z10 z11 z12 z13 j hj r hr
  generalize tabW j r = t at hw hend ⊢
  obtain ⟨o1, far, e1, b1, hf⟩ := pickO (l := farP.map (·.1)) (m := lsM (aC (tpM (aC (cM (.str "ann")) (aC (cM (.str "zz")) aN))) (aC (cM (.int 5)) (aC (cM (.str "x")) (aC (tpM (aC (cM (.str "bob")) (aC (cM (.str "a")) aN))) (aC (tpM aN) (aC (cM .non) aN)))))))
    (τ := [some (.loc 0), some (.d hA), some (.d (wiD t)), none, none, none, none, none, none, none, none, none, none, none]) (c := 6) (o := o) (G := []) (G1 := []) (by kernel_rfl) rfl rfl (by decide) (by decide) hb (by omega)
  have s1 := as_of (i := 3) e1
  obtain ⟨f, hf', rfl⟩ := List.mem_map.mp hf
  obtain ⟨o2, bad, e2, b2, hbad⟩ := pickO (l := badP) (m := lsM (aC (cM (.bl true)) (aC (cM .non) (aC (cM (.str "1")) (aC (lsM (aC (cM (.int 1)) aN)) (aC (fzM dnM) aN))))))
    (τ := [some (.loc 0), some (.d hA), some (.d (wiD t)), some (.d f.1), none, none, none, none, none, none, none, none, none, none]) (c := 5) (o := o1) (G := []) (G1 := [.fz (.dct [] [])]) (by kernel_rfl) rfl rfl (by decide) (by decide) b1 (by omega)
  obtain ⟨o3, odd, e3, b3, hodd⟩ := pickO (l := oddP ++ [wiD t]) (m := lsM (aC (cM .non) (aC (cM (.int 5)) (aC (cM (.str "x")) (aC (lsM aN) (aC (vM 2) aN))))))
    (τ := [some (.loc 0), some (.d hA), some (.d (wiD t)), some (.d f.1), none, none, none, none, none, none, none, none, none, none]) (c := 5) (o := o2) (G := [.fz (.dct [] [])]) (G1 := [.fz (.dct [] [])]) (by kernel_rfl) rfl rfl (by simp [oddP]) (by simp [oddP]) b2 (by omega)
  have s2 : pR2 csK [some (.loc 0), some (.d hA), some (.d (wiD t)), some (.d f.1), none, none, none, none, none, none, none, none, none, none] [o1] = .nx [some (.loc 0), some (.d hA), some (.d (wiD t)), some (.d f.1), some (.d bad), some (.d odd), none, none, none, none, none, none, none, none] [o3, .fz (.dct [] [])] := by
    unfold pR2 paS
    rw [show ∀ a b : ME, aC a (aC b aN) = fun τ S => (a τ S).bind fun w S1 => ((aC b aN) τ S1).bind fun ws S2 => .ok (w :: ws) S2 from fun _ _ => rfl]
    simp only [e2, Res.bind_ok, aC, e3, aN, Res.out_ok, List.set_cons_succ, List.set_cons_zero]
  have s3 := p_build t odd o3 f hf' bad
  have h5 := p_head t odd o3 f hf' bad
  have ok : ∀ c ∈ casesP f bad odd ++ [cLast f], PtOk t c := by
    intro c hc
    simp only [casesP, List.cons_append, List.nil_append, List.mem_cons, List.not_mem_nil, or_false] at hc
    rcases hc with rfl | rfl | rfl | rfl
    · rw [List.mem_append, List.mem_singleton] at hodd
      rcases hodd with h | rfl
      · exact pt_odd t odd h
      · exact hw
    · exact pt_pair t f hf' bad
    · exact pt_num t f hf' bad hbad
    · exact pt_last t f hf'
  obtain ⟨a8, a9, a10, e5⟩ := p_cases t _ (o3 :: (gP f bad ++ [.fz (.dct [acK, f.2] [.int (-3), .int 1])])) (some (.loc 0)) (some (.d f.1)) (some (.d bad)) (some (.d odd)) (some (.d (.lst ((casesP f bad odd).map csD)))) none none none none none none ok
  have s5 : pR5 csK [some (.loc 0), some (.d hA), some (.d (wiD t)), some (.d f.1), some (.d bad), some (.d odd), some (.d valD), some (.d (.lst ((casesP f bad odd).map csD))), none, none, none, none, none, none] (o3 :: gP f bad) = .nx [some (.loc 0), some (.d hA), some (.d (wiD t)), some (.d f.1), some (.d bad), some (.d odd), some (.d valD), some (.d (.lst ((casesP f bad odd).map csD))), a8, a9, a10, none, none, none] (o3 :: (gP f bad ++ [.fz (.dct [acK, f.2] [.int (-3), .int 1])])) := by
    show foS hdP _ _ _ _ = _
    rw [foS, h5]
    simp only [Res.out_ok]
    exact e5
  obtain ⟨x, y, z, rfl, _⟩ := b3.of_
  obtain ⟨G, s6⟩ := p_thing t x y z (.dct [] []) valD (.dct [f.2] [bad]) (.dct [aaK, f.2] [bad, .int 1]) (.dct [acK, f.2] [.int (-3), .int 1]) (some (.loc 0)) (some (.d f.1)) (some (.d bad)) (some (.d odd)) (some (.d valD)) (some (.d (.lst ((casesP f bad odd).map csD)))) a8 a9 a10
  have lm : lsM (aC (cM .non) (aC (cM (.int 5)) (aC (cM (.str "x")) (aC (fzM dnM) (aC (tpM (aC (cM (.str "ann")) (aC (cM (.str "a")) aN))) aN))))) [some (.loc 0), some (.d hA), some (.d (wiD t)), some (.d f.1), some (.d bad), some (.d odd), some (.d valD), some (.d (.lst ((casesP f bad odd).map csD))), a8, a9, a10, some (.loc 6), some (.d toldD), none] (LO [.int x, .int y, .int z] :: G) =
      .ok (.d (.lst wrongP)) (LO [.int x, .int y, .int z] :: (G ++ [.fz (.dct [] [])])) := by
    have fz : ∀ (τ : Sl) (S : Sto), fzM dnM τ S = .ok (.d (.dct [] [])) (S ++ [.fz (.dct [] [])]) := fun τ S => fz_dct (ds := []) rfl
    simp only [lsM, aC, cM_ap, Res.bind_ok, fz, aN, tpM]
    rfl
  obtain ⟨o4, wr, e10, b4, hwr⟩ := pickO (c := 5) lm rfl rfl (by decide) (by decide) b3 (by omega)
  have s10 := as_of (i := 13) e10
  have s11 := p_wrong t (o4 :: (G ++ [.fz (.dct [] [])])) (some (.loc 0)) (some (.d f.1)) (some (.d bad)) (some (.d odd)) (some (.d valD)) (some (.d (.lst ((casesP f bad odd).map csD)))) a8 a9 a10 (some (.loc 6)) (some (.d toldD)) wr hwr
  have s12 := hend (o4 :: (G ++ [.fz (.dct [] [])])) (some (.loc 0)) (some (.d f.1)) (some (.d bad)) (some (.d odd)) (some (.d valD)) (some (.d (.lst ((casesP f bad odd).map csD)))) a8 a9 (some (.d (.int 6))) (some (.loc 6)) (some (.d toldD)) (some (.d wr))
  refine ⟨.d (.bl true), o4, G ++ [.fz (.dct [] [])], .bl true, ?_, b4, rfl, rfl⟩
  rw [pR_def]
  simp only [List.map_cons, List.map_nil, defM, List.length_cons, List.length_nil, if_true, List.replicate, List.cons_append, List.nil_append]
  have z := (sq_nx (b := seqS (pR2 csK) (seqS (pR3 csK) (seqS (pR4 csK) (seqS (pR5 csK) (seqS (pR6 csK) (seqS (pR7 csK) (seqS (pR8 csK) (seqS (pR9 csK) (seqS (pR10 csK) (seqS (pR11 csK) (pR12 csK))))))))))) s1).trans (sq_nx s2)
  have z2 := (as2 (pR3 csK) (pR4 csK) (seqS (pR5 csK) (seqS (pR6 csK) (seqS (pR7 csK) (seqS (pR8 csK) (seqS (pR9 csK) (seqS (pR10 csK) (seqS (pR11 csK) (pR12 csK)))))))) _ _).trans ((sq_nx s3).trans (sq_nx s5))
  have z3 := (as4 (pR6 csK) (pR7 csK) (pR8 csK) (pR9 csK) (seqS (pR10 csK) (seqS (pR11 csK) (pR12 csK))) _ _).trans ((sq_nx s6).trans ((sq_nx s10).trans ((sq_nx s11).trans s12)))
  exact (z.trans (z2.trans z3)) ▸ rfl
end Mi
set_option Elab.async false
set_option linter.all false
set_option maxRecDepth 100000
set_option maxHeartbeats 4000000
namespace Mi
open PySem PySem.Spec PyProof.Rows L2 He Wl
def qS1 (cs : List Str) : MS := asS (apM (m__law_box cs) (aC (apM (callP (m__law_cell cs)) (aC (vM 0) (aC (vM 1) aN))) aN)) (gN 2)
def qS2 (cs : List Str) : MS := asS (apM (callP (m__law_pools cs)) aN) (gT 2 (gsC (gN 3) (gsC (gN 4) gsN)))
def qS3 (cs : List Str) : MS := asS (apM (newP "Wish" (m_Wish___init__ cs)) (aC (vM 3) (aC (fzM (d1M (tpM (aC (cM (.str "ann")) (aC (oM qIX (lsM (aC (cM (.str "a")) (aC (cM (.str "b")) (aC (cM (.str "c")) aN)))) (apM (callO (m__law_take cs)) (aC (vM 2) (aC (cM (.int 3)) aN)))) aN))) (apM (newR cs) (aC (cM (.int 1)) (aC (oM qADD (cM (.int 1)) (apM (callO (m__law_take cs)) (aC (vM 2) (aC (cM (.int 9)) aN)))) aN))))) aN))) (gN 5)
def qS4 (cs : List Str) : MS := foS (rg1 (aC (cM (.int 3)) aN)) (gN 6) (b_law_0 cs)
theorem qS_def (cs : List Str) : b_law_1 cs = (seqS (qS1 cs) (seqS (qS2 cs) (seqS (qS3 cs) (qS4 cs)))) := rfl
section
variable {S : Sto}
theorem turn_eq {n k j : Nat} {r : Rat} {z0 z1 z6 : Option W} (hj : j ∈ plL) (hr : r ∈ numL) (h : SR n k S) (hk : k + 7 ≤ 2 ^ 40) :
    ∃ S', b_law_0 csK [z0, z1, some (.loc n), some (.d hA), some (.d hB), some (.d (wiD (tabW j r))), z6] S = .nx [z0, z1, some (.loc n), some (.d hA), some (.d hB), some (.d (wiD (tabW j r))), z6] S' ∧ SR n (k + 7) S' := by
  obtain ⟨S1, y1, e1, h1, _, rfl⟩ := h.draw (values_bfn hj hr) (by omega)
  obtain ⟨S2, y2, e2, h2, _, rfl⟩ := h1.draw (paid_bfn hj hr) (by omega)
  have e1 : callO (m__law_values_right csK) [.loc n, .d hA, .d (wiD (tabW j r)), .d hB] S = .ok (.d (.bl true)) S1 := e1
  have e2 : callO (m__law_paid_right csK) [.loc n, .d hA, .d (wiD (tabW j r))] S1 = .ok (.d (.bl true)) S2 := e2
  exact ⟨S2, by simp only [b_law_0, orM, ntM, seqS, rtS, asS, ifS, exS, tsM, ntM, anM, orM, byM, ifM, callM, apM, aC, aN, vM_ap, cM_ap, gN, oM, uM, msM, Res.out_ok, Res.bind_ok, List.getElem?_cons_succ, List.getElem?_cons_zero, List.set_cons_succ, List.set_cons_zero, Bool.not_true, Bool.not_false, Bool.false_eq_true, if_false, if_true, e1, e2] <;> rfl, h2⟩
theorem turns_eq {n j : Nat} {r : Rat} {z0 z1 : Option W} (hj : j ∈ plL) (hr : r ∈ numL) :
    ∀ (l : List Nat) (k : Nat) (S : Sto) (z6 : Option W), SR n k S → k + 7 * l.length ≤ 2 ^ 40 →
    ∃ (S' : Sto) (z6' : Option W), loopS (gN 6) (b_law_0 csK) (l.map fun i => .d (nI i)) [z0, z1, some (.loc n), some (.d hA), some (.d hB), some (.d (wiD (tabW j r))), z6] S =
      .nx [z0, z1, some (.loc n), some (.d hA), some (.d hB), some (.d (wiD (tabW j r))), z6'] S' ∧ SR n (k + 7 * l.length) S'
  | [], k, S, z6, h, _ => ⟨S, z6, rfl, h⟩
  | tn :: l, k, S, z6, h, hk => by
    rw [List.length_cons] at hk
    obtain ⟨S1, e1, h1⟩ := turn_eq (z0 := z0) (z1 := z1) (z6 := some (.d (nI tn))) hj hr h (by omega)
    obtain ⟨S2, b6, e2, h2⟩ := turns_eq hj hr l (k + 7) S1 (some (.d (nI tn))) h1 (by omega)
    refine ⟨S2, b6, ?_, h2.mono (by rw [List.length_cons]; omega)⟩
    rw [List.map_cons, loop_step rfl e1]
    exact e2
theorem new_wi (S : Sto) : ∀ r ∈ numL, newP "Wish" (m_Wish___init__ csK) [.d hA, .d (.dct [aaK] [.rat r])] S = .ok (.d (wiD (tabW 0 r))) S ∧ newP "Wish" (m_Wish___init__ csK) [.d hA, .d (.dct [abK] [.rat r])] S = .ok (.d (wiD (tabW 1 r))) S ∧ newP "Wish" (m_Wish___init__ csK) [.d hA, .d (.dct [acK] [.rat r])] S = .ok (.d (wiD (tabW 2 r))) S := by
  simp only [numL, List.forall_mem_cons]
  refine ⟨⟨?_, ?_, ?_⟩, ⟨?_, ?_, ?_⟩, ⟨?_, ?_, ?_⟩, ⟨?_, ?_, ?_⟩, ⟨?_, ?_, ?_⟩, ⟨?_, ?_, ?_⟩, ⟨?_, ?_, ?_⟩, ⟨?_, ?_, ?_⟩, ⟨?_, ?_, ?_⟩, fun x h => nomatch h⟩ <;> kernel_rfl
theorem num_of {i : Nat} (hi : i < 9) : Rat.divInt 1 (1 + (i : Int)) ∈ numL := by
  have h : ∀ i : _root_.Fin 9, Rat.divInt 1 (1 + ((i : Nat) : Int)) ∈ numL := by decide +kernel
  exact h ⟨i, hi⟩
theorem wish_eq {n k : Nat} {z0 z1 z5 z6 : Option W} (h : SR n k S) (hk : k + 2 ≤ 2 ^ 40) : ∃ (S' : Sto) (j : Nat) (r : Rat), j ∈ plL ∧ r ∈ numL ∧ qS3 csK [z0, z1, some (.loc n), some (.d hA), some (.d hB), z5, z6] S = .nx [z0, z1, some (.loc n), some (.d hA), some (.d hB), some (.d (wiD (tabW j r))), z6] S' ∧ SR n (k + 2) S' := by
  obtain ⟨S1, j, e1, h1, _, hj⟩ := h.take (cs := csK) (m := 3) (by decide) (by decide) (by omega)
  obtain ⟨S2, i, e2, h2, _, hi⟩ := h1.take (cs := csK) (m := 9) (by decide) (by decide) (by omega)
  have e1 : callO (m__law_take csK) [.loc n, .d (.int 3)] S = .ok (.d (nI j)) S1 := e1
  have e2 : callO (m__law_take csK) [.loc n, .d (.int 9)] S1 = .ok (.d (nI i)) S2 := e2
  have ad : run qADD [.d (.int 1), .d (nI i)] S2 = .ok (.d (.int (1 + (i : Int)))) S2 := rfl
  have nr := newR_eq (cs := csK) (p := 1) (q := 1 + (i : Int)) (S := S2) (by omega) (Nat.lt_of_le_of_lt (show (1 + (i : Int)).natAbs ≤ 9 by omega) (by decide +kernel))
  have hr := num_of hi
  generalize Rat.divInt 1 (1 + (i : Int)) = r at nr hr
  obtain ⟨w0, w1, w2⟩ := new_wi (S2 ++ [.fz (.dct [aaK] [.rat r])]) r hr
  obtain ⟨x, kx, hx, ix, tk, nw⟩ : ∃ (x : Str) (kx : NK), j ∈ plL ∧ run qIX [.d (.lst [.str "a", .str "b", .str "c"]), .d (nI j)] S1 = .ok (.d (.str x)) S1 ∧ tkey (.d (.tup [.str "ann", .str x])) = some kx ∧ newP "Wish" (m_Wish___init__ csK) [.d hA, .d (.dct [kx] [.rat r])] (S2 ++ [.fz (.dct [kx] [.rat r])]) = .ok (.d (wiD (tabW j r))) (S2 ++ [.fz (.dct [kx] [.rat r])]) := by
    match j, hj with
    | 0, _ => exact ⟨"a", aaK, by decide, rfl, rfl, (new_wi _ r hr).1⟩
    | 1, _ => exact ⟨"b", abK, by decide, rfl, rfl, (new_wi _ r hr).2.1⟩
    | 2, _ => exact ⟨"c", acK, by decide, rfl, rfl, (new_wi _ r hr).2.2⟩
  refine ⟨S2 ++ [.fz (.dct [kx] [.rat r])], j, r, hx, hr, ?_, h2.app rfl⟩
  have l1 : ∀ τ S, lsM (aC (cM (.str "a")) (aC (cM (.str "b")) (aC (cM (.str "c")) aN))) τ S = .ok (.d (.lst [.str "a", .str "b", .str "c"])) S := fun _ _ => rfl
  have t1 : ∀ τ, tpM (aC (cM (.str "ann")) (aC (oM qIX (lsM (aC (cM (.str "a")) (aC (cM (.str "b")) (aC (cM (.str "c")) aN)))) (apM (callO (m__law_take csK)) (aC (vM 2) (aC (cM (.int 3)) aN)))) aN)) (z0 :: z1 :: some (.loc n) :: τ) S = .ok (.d (.tup [.str "ann", .str x])) S1 := by
    intro τ
    simp only [tpM, aC, cM_ap, Res.bind_ok, oM, l1, apM, vM_ap, List.getElem?_cons_succ, List.getElem?_cons_zero, aN, e1, ix]
    rfl
  have v1 : ∀ τ, apM (newR csK) (aC (cM (.int 1)) (aC (oM qADD (cM (.int 1)) (apM (callO (m__law_take csK)) (aC (vM 2) (aC (cM (.int 9)) aN)))) aN)) (z0 :: z1 :: some (.loc n) :: τ) S1 = .ok (.d (.rat r)) S2 := by
    intro τ
    simp only [apM, aC, cM_ap, Res.bind_ok, oM, vM_ap, List.getElem?_cons_succ, List.getElem?_cons_zero, aN, e2, ad, nr]
  have d1 : d1M (tpM (aC (cM (.str "ann")) (aC (oM qIX (lsM (aC (cM (.str "a")) (aC (cM (.str "b")) (aC (cM (.str "c")) aN)))) (apM (callO (m__law_take csK)) (aC (vM 2) (aC (cM (.int 3)) aN)))) aN))) (apM (newR csK) (aC (cM (.int 1)) (aC (oM qADD (cM (.int 1)) (apM (callO (m__law_take csK)) (aC (vM 2) (aC (cM (.int 9)) aN)))) aN))) [z0, z1, some (.loc n), some (.d hA), some (.d hB), z5, z6] S = .ok (.loc S2.length) (S2 ++ [.dct [kx] ([D.rat r].map .d)]) := by
    unfold d1M
    simp only [t1, v1, Res.bind_ok]
    rw [tk]
    rfl
  have fz := fz_dct d1
  simp only [qS3, asS, apM, aC, aN, vM_ap, List.getElem?_cons_succ, List.getElem?_cons_zero, Res.bind_ok] at fz ⊢
  simp only [asS, apM, aC, aN, vM_ap, List.getElem?_cons_succ, List.getElem?_cons_zero, Res.bind_ok, fz, nw, Res.out_ok, gN, List.set_cons_succ, List.set_cons_zero]
theorem lap_eq {ns : List Int} {j : Nat} (hj : j ≤ 1000) (hS : Up S) (τ : Sl) (hτ : τ.length = 5) : ∃ (S' : Sto) (τ' : Sl), b_law_1 csK (some (.d (.scr ns)) :: some (.d (nI j)) :: τ) S = .nx (some (.d (.scr ns)) :: some (.d (nI j)) :: τ') S' ∧ Up S' ∧ τ'.length = 5 := by
  obtain ⟨a2, a3, a4, a5, a6, rfl⟩ : ∃ a2 a3 a4 a5 a6 : Option W, τ = [a2, a3, a4, a5, a6] := by
    match τ, hτ with
    | [a2, a3, a4, a5, a6], _ => exact ⟨a2, a3, a4, a5, a6, rfl⟩
  obtain ⟨v, hv⟩ := cell_fn (cs := csK) (ns := ns) (i := j) hj
  have c1 : callP (m__law_cell csK) [.d (.scr ns), .d (nI j)] S = .ok (.d (.int v)) S := hv.c2
  obtain ⟨o, hb, eb⟩ := box_eq (cs := csK) (S := S) (v := v)
  have h0 : SR S.length 0 (S ++ [o]) := ⟨⟨o, by simp, hb⟩, hS.app (bag_upto hb)⟩
  have s1 : qS1 csK [some (.d (.scr ns)), some (.d (nI j)), a2, a3, a4, a5, a6] S = .nx [some (.d (.scr ns)), some (.d (nI j)), some (.loc S.length), a3, a4, a5, a6] (S ++ [o]) := by
    simp only [qS1, seqS, rtS, asS, ifS, exS, tsM, ntM, anM, orM, byM, ifM, callM, apM, aC, aN, vM_ap, cM_ap, gN, oM, uM, msM, Res.out_ok, Res.bind_ok, List.getElem?_cons_succ, List.getElem?_cons_zero, List.set_cons_succ, List.set_cons_zero, Bool.not_true, Bool.not_false, Bool.false_eq_true, if_false, if_true, c1, eb]
  generalize S.length = n at h0 s1 ⊢
  have s2 : qS2 csK [some (.d (.scr ns)), some (.d (nI j)), some (.loc n), a3, a4, a5, a6] (S ++ [o]) = .nx [some (.d (.scr ns)), some (.d (nI j)), some (.loc n), some (.d hA), some (.d hB), a5, a6] (S ++ [o]) := by
    simp only [qS2, asS, apM, aN, Res.bind_ok, pools_eq]
    rfl
  obtain ⟨S3, i, r, hi, hr, s3, h3⟩ := wish_eq (z0 := some (.d (.scr ns))) (z1 := some (.d (nI j))) (z5 := a5) (z6 := a6) h0 (by omega)
  obtain ⟨S4, b6, e4, h4⟩ := turns_eq (z0 := some (.d (.scr ns))) (z1 := some (.d (nI j))) hi hr [0, 1, 2] _ S3 a6 h3 (by simp)
  have s4 : qS4 csK [some (.d (.scr ns)), some (.d (nI j)), some (.loc n), some (.d hA), some (.d hB), some (.d (wiD (tabW i r))), a6] S3 = .nx [some (.d (.scr ns)), some (.d (nI j)), some (.loc n), some (.d hA), some (.d hB), some (.d (wiD (tabW i r))), b6] S4 := by
    have i5 : rg1 (aC (cM (.int 3)) aN) [some (.d (.scr ns)), some (.d (nI j)), some (.loc n), some (.d hA), some (.d hB), some (.d (wiD (tabW i r))), a6] S3 = .ok ([0, 1, 2].map fun (i : Nat) => .d (nI i)) S3 := rfl
    rw [qS4, foS, i5]
    exact e4
  refine ⟨S4, [some (.loc n), some (.d hA), some (.d hB), some (.d (wiD (tabW i r))), b6], ?_, h4.up, rfl⟩
  rw [qS_def, sq_nx s1, sq_nx s2, sq_nx s3, s4]
theorem laps_eq {ns : List Int} : ∀ (l : List Nat) (S : Sto) (a1 : Option W) (τ : Sl), (∀ j ∈ l, j ≤ 1000) → Up S → τ.length = 5 → ∃ (S' : Sto) (τ' : Sl), loopS (gN 1) (b_law_1 csK) (l.map fun i => .d (nI i)) (some (.d (.scr ns)) :: a1 :: τ) S = .nx τ' S'
  | [], S, a1, τ, _, _, _ => ⟨S, _, rfl⟩
  | j :: l, S, a1, τ, hl, hS, hτ => by
    obtain ⟨S1, τ1, e1, h1, l1⟩ := lap_eq (ns := ns) (hl j List.mem_cons_self) hS τ hτ
    obtain ⟨S2, τ2, e2⟩ := laps_eq l S1 (some (.d (nI j))) τ1 (fun i hi => hl i (List.mem_cons_of_mem _ hi)) h1 l1
    refine ⟨S2, τ2, ?_⟩
    rw [List.map_cons, loop_step (τ1 := some (.d (.scr ns)) :: some (.d (nI j)) :: τ) rfl e1]
    exact e2
theorem run_min2N {a b : Nat} : run qMin2 [.d (.int a), .d (.int b)] S = .ok (.d (.int ((min a b : Nat) : Int))) S := by
  show Res.ok (W.d (.int (if (b : Int) < (a : Int) then (b : Int) else a))) S = _
  congr 3
  split <;> omega
theorem run_max2N {a b : Nat} : run qMax2 [.d (.int a), .d (.int b)] S = .ok (.d (.int ((max a b : Nat) : Int))) S := by
  show Res.ok (W.d (.int (if (b : Int) > (a : Int) then (b : Int) else a))) S = _
  congr 3
  split <;> omega
theorem law_eq0 {ns : List Int} : ∃ S', m_law csK [.d (.scr ns)] [] = .ok (.d (.bl true)) S' := by
  have le : run qLEN [.d (.scr ns)] ([] : Sto) = .ok (.d (.int ns.length)) [] := by
    simp [run, qLEN, orQ, qLen, pure1, seqOf]
  have rg : ∃ m : Nat, m ≤ 8 ∧ rg1 (aC (callM qMax2 (aC (cM (.int 2)) (aC (callM qMin2 (aC (cM (.int 8)) (aC (callM qLEN (aC (vM 0) aN)) aN))) aN))) aN) [some (.d (.scr ns)), none, none, none, none, none, none] [] = .ok ((List.range m).map fun (i : Nat) => .d (nI i)) [] := by
    have mn : run qMin2 [.d (.int 8), .d (.int ns.length)] ([] : Sto) = .ok (.d (.int ((min 8 ns.length : Nat) : Int))) [] := run_min2N (a := 8)
    have mx : run qMax2 [.d (.int 2), .d (.int ((min 8 ns.length : Nat) : Int))] ([] : Sto) = .ok (.d (.int ((max 2 (min 8 ns.length) : Nat) : Int))) [] := run_max2N (a := 2)
    generalize hm : max 2 (min 8 ns.length) = m at mx
    have m8 : m ≤ 8 := by omega
    refine ⟨m, m8, ?_⟩
    simp only [rg1, seqS, rtS, asS, ifS, exS, tsM, ntM, anM, orM, byM, ifM, callM, apM, aC, aN, vM_ap, cM_ap, gN, oM, uM, msM, Res.out_ok, Res.bind_ok, List.getElem?_cons_succ, List.getElem?_cons_zero, List.set_cons_succ, List.set_cons_zero, Bool.not_true, Bool.not_false, Bool.false_eq_true, if_false, if_true, le, mn, mx]
    rw [if_pos (by rw [decide_eq_true_eq, Int.natAbs_natCast]; exact Nat.lt_of_le_of_lt m8 (by decide))]
    rw [Int.toNat_natCast]
    unfold rgL
    congr 1
    apply List.map_congr_left
    intro x _
    simp
  obtain ⟨m, hm, er⟩ := rg
  obtain ⟨S', τ', el⟩ := laps_eq (ns := ns) (List.range m) [] none [none, none, none, none, none] (fun j hj => by have := List.mem_range.mp hj; omega) Up.nil rfl
  refine ⟨S', ?_⟩
  have f1 : foS (rg1 (aC (callM qMax2 (aC (cM (.int 2)) (aC (callM qMin2 (aC (cM (.int 8)) (aC (callM qLEN (aC (vM 0) aN)) aN))) aN))) aN)) (gN 1) (b_law_1 csK) [some (.d (.scr ns)), none, none, none, none, none, none] [] = .nx τ' S' := by
    rw [foS, er]
    simp only [Res.out_ok]
    exact el
  simp only [List.map_cons, List.map_nil, defM, List.length_cons, List.length_nil, if_true, List.replicate, List.cons_append, List.nil_append, m_law]
  rw [sq_nx f1]
  rfl
end
end Mi
set_option Elab.async false
set_option linter.all false
set_option maxRecDepth 100000
set_option maxHeartbeats 4000000
namespace Lw
open PySem PySem.Spec PyProof.Rows L2 He Wl Mi
section
variable {P : Program} {w : World} {K : PySem.W.Frag} {mg : Str → Option Value} {base : Heap}
theorem xo_InvalidNumber (T : TX K mg) : OexC K (ga K "InvalidNumber") := oexB_ok (xe T 6)
theorem xi_InvalidNumber (T : TX K mg) : OwnInit K (ga K "InvalidNumber") (ma K (ga K "InvalidNumber") "__init__") := ownInitB_ok (xe T 7)
theorem ok_InvalidNumber___init__ (T : TX K mg) : FnR P w K mg base (L2.CX P w) 1 (ma K (ga K "InvalidNumber") "__init__") (spExc1 (ga K "InvalidNumber") "value") := by
  refine fnR_of (T.d 1) sc_InvalidNumber___init__ (fun vs H Q E h => ?_) (fun _ _ _ _ _ _ us hl => match us, hl with | [_, _], _ => rfl) (fun cdv A outer s H vs Q E hr h => ?_)
  · obtain ⟨a, v, rfl, _⟩ := h; rfl
  · obtain ⟨a, v, rfl, ha, k⟩ := h
    refine ⟨_, pss_cons (ps_expr (pe_clsinit (baseInitB_ok (xe T 1)) (by rfl) (T.g 81) (pa_cons (pv 0) (pa_cons pe_str pa_nil)))) (pss_one (ps_ost (pv 0) (pv 1))), ?_⟩
    refine ⟨_, rfl, a, ga K "InvalidNumber", _, rfl, (by decide), xo_InvalidNumber T, ha, ?_⟩
    exact ⟨_, rfl, _, rfl, a, _, rfl, xo_InvalidNumber T, eqO_ok (xe T 8), .inl ⟨ha, fun d hd hda => k d hd hda⟩⟩
theorem xo_InvalidName (T : TX K mg) : OexC K (ga K "InvalidName") := oexB_ok (xe T 12)
theorem xi_InvalidName (T : TX K mg) : OwnInit K (ga K "InvalidName") (ma K (ga K "InvalidName") "__init__") := ownInitB_ok (xe T 13)
theorem ok_InvalidName___init__ (T : TX K mg) : FnR P w K mg base (L2.CX P w) 1 (ma K (ga K "InvalidName") "__init__") (spExc1 (ga K "InvalidName") "value") := by
  refine fnR_of (T.d 3) sc_InvalidName___init__ (fun vs H Q E h => ?_) (fun _ _ _ _ _ _ us hl => match us, hl with | [_, _], _ => rfl) (fun cdv A outer s H vs Q E hr h => ?_)
  · obtain ⟨a, v, rfl, _⟩ := h; rfl
  · obtain ⟨a, v, rfl, ha, k⟩ := h
    refine ⟨_, pss_cons (ps_expr (pe_clsinit (baseInitB_ok (xe T 1)) (by rfl) (T.g 81) (pa_cons (pv 0) (pa_cons pe_str pa_nil)))) (pss_one (ps_ost (pv 0) (pv 1))), ?_⟩
    refine ⟨_, rfl, a, ga K "InvalidName", _, rfl, (by decide), xo_InvalidName T, ha, ?_⟩
    exact ⟨_, rfl, _, rfl, a, _, rfl, xo_InvalidName T, eqO_ok (xe T 14), .inl ⟨ha, fun d hd hda => k d hd hda⟩⟩
theorem xo_InvalidHouse (T : TX K mg) : OexC K (ga K "InvalidHouse") := oexB_ok (xe T 15)
theorem xi_InvalidHouse (T : TX K mg) : OwnInit K (ga K "InvalidHouse") (ma K (ga K "InvalidHouse") "__init__") := ownInitB_ok (xe T 16)
theorem ok_InvalidHouse___init__ (T : TX K mg) : FnR P w K mg base (L2.CX P w) 1 (ma K (ga K "InvalidHouse") "__init__") (spExc1 (ga K "InvalidHouse") "value") := by
  refine fnR_of (T.d 4) sc_InvalidHouse___init__ (fun vs H Q E h => ?_) (fun _ _ _ _ _ _ us hl => match us, hl with | [_, _], _ => rfl) (fun cdv A outer s H vs Q E hr h => ?_)
  · obtain ⟨a, v, rfl, _⟩ := h; rfl
  · obtain ⟨a, v, rfl, ha, k⟩ := h
    refine ⟨_, pss_cons (ps_expr (pe_clsinit (baseInitB_ok (xe T 1)) (by rfl) (T.g 81) (pa_cons (pv 0) (pa_cons pe_str pa_nil)))) (pss_one (ps_ost (pv 0) (pv 1))), ?_⟩
    refine ⟨_, rfl, a, ga K "InvalidHouse", _, rfl, (by decide), xo_InvalidHouse T, ha, ?_⟩
    exact ⟨_, rfl, _, rfl, a, _, rfl, xo_InvalidHouse T, eqO_ok (xe T 17), .inl ⟨ha, fun d hd hda => k d hd hda⟩⟩
theorem xo_InvalidChance (T : TX K mg) : OexC K (ga K "InvalidChance") := oexB_ok (xe T 18)
theorem xi_InvalidChance (T : TX K mg) : OwnInit K (ga K "InvalidChance") (ma K (ga K "InvalidChance") "__init__") := ownInitB_ok (xe T 19)
theorem ok_InvalidChance___init__ (T : TX K mg) : FnR P w K mg base (L2.CX P w) 1 (ma K (ga K "InvalidChance") "__init__") (spExc1 (ga K "InvalidChance") "value") := by
  refine fnR_of (T.d 5) sc_InvalidChance___init__ (fun vs H Q E h => ?_) (fun _ _ _ _ _ _ us hl => match us, hl with | [_, _], _ => rfl) (fun cdv A outer s H vs Q E hr h => ?_)
  · obtain ⟨a, v, rfl, _⟩ := h; rfl
  · obtain ⟨a, v, rfl, ha, k⟩ := h
    refine ⟨_, pss_cons (ps_expr (pe_clsinit (baseInitB_ok (xe T 1)) (by rfl) (T.g 81) (pa_cons (pv 0) (pa_cons pe_str pa_nil)))) (pss_one (ps_ost (pv 0) (pv 1))), ?_⟩
    refine ⟨_, rfl, a, ga K "InvalidChance", _, rfl, (by decide), xo_InvalidChance T, ha, ?_⟩
    exact ⟨_, rfl, _, rfl, a, _, rfl, xo_InvalidChance T, eqO_ok (xe T 20), .inl ⟨ha, fun d hd hda => k d hd hda⟩⟩
theorem xo_InvalidDay (T : TX K mg) : OexC K (ga K "InvalidDay") := oexB_ok (xe T 21)
theorem xi_InvalidDay (T : TX K mg) : OwnInit K (ga K "InvalidDay") (ma K (ga K "InvalidDay") "__init__") := ownInitB_ok (xe T 22)
theorem ok_InvalidDay___init__ (T : TX K mg) : FnR P w K mg base (L2.CX P w) 1 (ma K (ga K "InvalidDay") "__init__") (spExc1 (ga K "InvalidDay") "value") := by
  refine fnR_of (T.d 6) sc_InvalidDay___init__ (fun vs H Q E h => ?_) (fun _ _ _ _ _ _ us hl => match us, hl with | [_, _], _ => rfl) (fun cdv A outer s H vs Q E hr h => ?_)
  · obtain ⟨a, v, rfl, _⟩ := h; rfl
  · obtain ⟨a, v, rfl, ha, k⟩ := h
    refine ⟨_, pss_cons (ps_expr (pe_clsinit (baseInitB_ok (xe T 1)) (by rfl) (T.g 81) (pa_cons (pv 0) (pa_cons pe_str pa_nil)))) (pss_one (ps_ost (pv 0) (pv 1))), ?_⟩
    refine ⟨_, rfl, a, ga K "InvalidDay", _, rfl, (by decide), xo_InvalidDay T, ha, ?_⟩
    exact ⟨_, rfl, _, rfl, a, _, rfl, xo_InvalidDay T, eqO_ok (xe T 23), .inl ⟨ha, fun d hd hda => k d hd hda⟩⟩
theorem xo_InvalidDays (T : TX K mg) : OexC K (ga K "InvalidDays") := oexB_ok (xe T 24)
theorem xi_InvalidDays (T : TX K mg) : OwnInit K (ga K "InvalidDays") (ma K (ga K "InvalidDays") "__init__") := ownInitB_ok (xe T 25)
theorem ok_InvalidDays___init__ (T : TX K mg) : FnR P w K mg base (L2.CX P w) 1 (ma K (ga K "InvalidDays") "__init__") (spExc1 (ga K "InvalidDays") "value") := by
  refine fnR_of (T.d 7) sc_InvalidDays___init__ (fun vs H Q E h => ?_) (fun _ _ _ _ _ _ us hl => match us, hl with | [_, _], _ => rfl) (fun cdv A outer s H vs Q E hr h => ?_)
  · obtain ⟨a, v, rfl, _⟩ := h; rfl
  · obtain ⟨a, v, rfl, ha, k⟩ := h
    refine ⟨_, pss_cons (ps_expr (pe_clsinit (baseInitB_ok (xe T 1)) (by rfl) (T.g 81) (pa_cons (pv 0) (pa_cons pe_str pa_nil)))) (pss_one (ps_ost (pv 0) (pv 1))), ?_⟩
    refine ⟨_, rfl, a, ga K "InvalidDays", _, rfl, (by decide), xo_InvalidDays T, ha, ?_⟩
    exact ⟨_, rfl, _, rfl, a, _, rfl, xo_InvalidDays T, eqO_ok (xe T 26), .inl ⟨ha, fun d hd hda => k d hd hda⟩⟩
theorem xo_InvalidWish (T : TX K mg) : OexC K (ga K "InvalidWish") := oexB_ok (xe T 27)
theorem xi_InvalidWish (T : TX K mg) : OwnInit K (ga K "InvalidWish") (ma K (ga K "InvalidWish") "__init__") := ownInitB_ok (xe T 28)
theorem ok_InvalidWish___init__ (T : TX K mg) : FnR P w K mg base (L2.CX P w) 1 (ma K (ga K "InvalidWish") "__init__") (spExc1 (ga K "InvalidWish") "value") := by
  refine fnR_of (T.d 8) sc_InvalidWish___init__ (fun vs H Q E h => ?_) (fun _ _ _ _ _ _ us hl => match us, hl with | [_, _], _ => rfl) (fun cdv A outer s H vs Q E hr h => ?_)
  · obtain ⟨a, v, rfl, _⟩ := h; rfl
  · obtain ⟨a, v, rfl, ha, k⟩ := h
    refine ⟨_, pss_cons (ps_expr (pe_clsinit (baseInitB_ok (xe T 1)) (by rfl) (T.g 81) (pa_cons (pv 0) (pa_cons pe_str pa_nil)))) (pss_one (ps_ost (pv 0) (pv 1))), ?_⟩
    refine ⟨_, rfl, a, ga K "InvalidWish", _, rfl, (by decide), xo_InvalidWish T, ha, ?_⟩
    exact ⟨_, rfl, _, rfl, a, _, rfl, xo_InvalidWish T, eqO_ok (xe T 29), .inl ⟨ha, fun d hd hda => k d hd hda⟩⟩
theorem xo_InvalidWorths (T : TX K mg) : OexC K (ga K "InvalidWorths") := oexB_ok (xe T 33)
theorem xi_InvalidWorths (T : TX K mg) : OwnInit K (ga K "InvalidWorths") (ma K (ga K "InvalidWorths") "__init__") := ownInitB_ok (xe T 34)
theorem ok_InvalidWorths___init__ (T : TX K mg) : FnR P w K mg base (L2.CX P w) 1 (ma K (ga K "InvalidWorths") "__init__") (spExc1 (ga K "InvalidWorths") "value") := by
  refine fnR_of (T.d 10) sc_InvalidWorths___init__ (fun vs H Q E h => ?_) (fun _ _ _ _ _ _ us hl => match us, hl with | [_, _], _ => rfl) (fun cdv A outer s H vs Q E hr h => ?_)
  · obtain ⟨a, v, rfl, _⟩ := h; rfl
  · obtain ⟨a, v, rfl, ha, k⟩ := h
    refine ⟨_, pss_cons (ps_expr (pe_clsinit (baseInitB_ok (xe T 1)) (by rfl) (T.g 81) (pa_cons (pv 0) (pa_cons pe_str pa_nil)))) (pss_one (ps_ost (pv 0) (pv 1))), ?_⟩
    refine ⟨_, rfl, a, ga K "InvalidWorths", _, rfl, (by decide), xo_InvalidWorths T, ha, ?_⟩
    exact ⟨_, rfl, _, rfl, a, _, rfl, xo_InvalidWorths T, eqO_ok (xe T 35), .inl ⟨ha, fun d hd hda => k d hd hda⟩⟩
theorem xo_Duplicate (T : TX K mg) : OexC K (ga K "Duplicate") := oexB_ok (xe T 36)
theorem xi_Duplicate (T : TX K mg) : OwnInit K (ga K "Duplicate") (ma K (ga K "Duplicate") "__init__") := ownInitB_ok (xe T 37)
theorem ok_Duplicate___init__ (T : TX K mg) : FnR P w K mg base (L2.CX P w) 1 (ma K (ga K "Duplicate") "__init__") (spExc1 (ga K "Duplicate") "value") := by
  refine fnR_of (T.d 11) sc_Duplicate___init__ (fun vs H Q E h => ?_) (fun _ _ _ _ _ _ us hl => match us, hl with | [_, _], _ => rfl) (fun cdv A outer s H vs Q E hr h => ?_)
  · obtain ⟨a, v, rfl, _⟩ := h; rfl
  · obtain ⟨a, v, rfl, ha, k⟩ := h
    refine ⟨_, pss_cons (ps_expr (pe_clsinit (baseInitB_ok (xe T 1)) (by rfl) (T.g 81) (pa_cons (pv 0) (pa_cons pe_str pa_nil)))) (pss_one (ps_ost (pv 0) (pv 1))), ?_⟩
    refine ⟨_, rfl, a, ga K "Duplicate", _, rfl, (by decide), xo_Duplicate T, ha, ?_⟩
    exact ⟨_, rfl, _, rfl, a, _, rfl, xo_Duplicate T, eqO_ok (xe T 38), .inl ⟨ha, fun d hd hda => k d hd hda⟩⟩
theorem xo_UnknownPair (T : TX K mg) : OexC K (ga K "UnknownPair") := oexB_ok (xe T 42)
theorem xi_UnknownPair (T : TX K mg) : OwnInit K (ga K "UnknownPair") (ma K (ga K "UnknownPair") "__init__") := ownInitB_ok (xe T 43)
theorem ok_UnknownPair___init__ (T : TX K mg) : FnR P w K mg base (L2.CX P w) 1 (ma K (ga K "UnknownPair") "__init__") (spExc1 (ga K "UnknownPair") "pair") := by
  refine fnR_of (T.d 13) sc_UnknownPair___init__ (fun vs H Q E h => ?_) (fun _ _ _ _ _ _ us hl => match us, hl with | [_, _], _ => rfl) (fun cdv A outer s H vs Q E hr h => ?_)
  · obtain ⟨a, v, rfl, _⟩ := h; rfl
  · obtain ⟨a, v, rfl, ha, k⟩ := h
    refine ⟨_, pss_cons (ps_expr (pe_clsinit (baseInitB_ok (xe T 1)) (by rfl) (T.g 81) (pa_cons (pv 0) (pa_cons pe_str pa_nil)))) (pss_one (ps_ost (pv 0) (pv 1))), ?_⟩
    refine ⟨_, rfl, a, ga K "UnknownPair", _, rfl, (by decide), xo_UnknownPair T, ha, ?_⟩
    exact ⟨_, rfl, _, rfl, a, _, rfl, xo_UnknownPair T, eqO_ok (xe T 44), .inl ⟨ha, fun d hd hda => k d hd hda⟩⟩
theorem xo_NotIndependent (T : TX K mg) : OexC K (ga K "NotIndependent") := oexB_ok (xe T 45)
theorem xi_NotIndependent (T : TX K mg) : OwnInit K (ga K "NotIndependent") (ma K (ga K "NotIndependent") "__init__") := ownInitB_ok (xe T 46)
theorem ok_NotIndependent___init__ (T : TX K mg) : FnR P w K mg base (L2.CX P w) 1 (ma K (ga K "NotIndependent") "__init__") (spExc0 (ga K "NotIndependent")) := by
  refine fnR_of (T.d 14) sc_NotIndependent___init__ (fun vs H Q E h => ?_) (fun _ _ _ _ _ _ us hl => match us, hl with | [_], _ => rfl) (fun cdv A outer s H vs Q E hr h => ?_)
  · obtain ⟨a, rfl, _⟩ := h; rfl
  · obtain ⟨a, rfl, ha, k⟩ := h
    refine ⟨_, pss_one (ps_expr (pe_clsinit (baseInitB_ok (xe T 1)) (by rfl) (T.g 81) (pa_cons (pv 0) (pa_cons pe_str pa_nil)))), ?_⟩
    exact ⟨_, rfl, a, ga K "NotIndependent", _, rfl, (by decide), xo_NotIndependent T, ha, k⟩
theorem xo_ByZero (T : TX K mg) : OexC K (ga K "ByZero") := oexB_ok (xe T 47)
theorem xi_ByZero (T : TX K mg) : OwnInit K (ga K "ByZero") (ma K (ga K "ByZero") "__init__") := ownInitB_ok (xe T 48)
theorem ok_ByZero___init__ (T : TX K mg) : FnR P w K mg base (L2.CX P w) 1 (ma K (ga K "ByZero") "__init__") (spExc0 (ga K "ByZero")) := by
  refine fnR_of (T.d 15) sc_ByZero___init__ (fun vs H Q E h => ?_) (fun _ _ _ _ _ _ us hl => match us, hl with | [_], _ => rfl) (fun cdv A outer s H vs Q E hr h => ?_)
  · obtain ⟨a, rfl, _⟩ := h; rfl
  · obtain ⟨a, rfl, ha, k⟩ := h
    refine ⟨_, pss_one (ps_expr (pe_clsinit (baseInitB_ok (xe T 1)) (by rfl) (T.g 81) (pa_cons (pv 0) (pa_cons pe_str pa_nil)))), ?_⟩
    exact ⟨_, rfl, a, ga K "ByZero", _, rfl, (by decide), xo_ByZero T, ha, k⟩
theorem okd_is_integer (T : TX K mg) : FnD P w K mg base 1 (ga K "is_integer") ["value"] (spM ⟨P, w, K⟩ (m_is_integer cs)) d_is_integer.name d_is_integer.qual d_is_integer.params d_is_integer.body d_is_integer.scope :=
  def_of (T.d 16) sc_is_integer rfl rfl fun cdv A outer s H E hr => ms_one (ms_ret (me_and (me_callB (cs_isi (kf T)) (by rfl) (T.f 109) (by decide +kernel) (ma_cons (mv 0) (ma_cons (me_ty (pe_bltn (v := .ty "int") (u := .type "int") (by rfl) (T.f 108) (by decide +kernel) rfl)) ma_nil))) (me_one (me_not (me_callB (cs_isi (kf T)) (by rfl) (T.f 109) (by decide +kernel) (ma_cons (mv 0) (ma_cons (me_ty (pe_bltn (v := .ty "bool") (u := .type "bool") (by rfl) (T.f 104) (by decide +kernel) rfl)) ma_nil)))))))
theorem okr_is_integer (T : TX K mg) : FnR P w K mg base (L2.CX P w) 1 (ga K "is_integer") (spM ⟨P, w, K⟩ (m_is_integer cs)) := (okd_is_integer T).r (fun _ _ _ _ _ _ us hl => match us, hl with | [_], _ => rfl)
theorem okd_is_list (T : TX K mg) : FnD P w K mg base 1 (ga K "is_list") ["value"] (spM ⟨P, w, K⟩ (m_is_list cs)) d_is_list.name d_is_list.qual d_is_list.params d_is_list.body d_is_list.scope :=
  def_of (T.d 17) sc_is_list rfl rfl fun cdv A outer s H E hr => ms_one (ms_ret (me_callB (cs_isi (kf T)) (by rfl) (T.f 109) (by decide +kernel) (ma_cons (mv 0) (ma_cons (me_tup (ma_cons (me_ty (pe_bltn (v := .ty "list") (u := .type "list") (by rfl) (T.f 111) (by decide +kernel) rfl)) (ma_cons (me_ty (pe_bltn (v := .ty "tuple") (u := .type "tuple") (by rfl) (T.f 119) (by decide +kernel) rfl)) ma_nil))) ma_nil))))
theorem okr_is_list (T : TX K mg) : FnR P w K mg base (L2.CX P w) 1 (ga K "is_list") (spM ⟨P, w, K⟩ (m_is_list cs)) := (okd_is_list T).r (fun _ _ _ _ _ _ us hl => match us, hl with | [_], _ => rfl)
theorem okd_common_divisor (T : TX K mg) : FnD P w K mg base 1 (ga K "common_divisor") ["one", "other"] (spM ⟨P, w, K⟩ (m_common_divisor cs)) d_common_divisor.name d_common_divisor.qual d_common_divisor.params d_common_divisor.body d_common_divisor.scope :=
  def_of (T.d 18) sc_common_divisor rfl rfl fun cdv A outer s H E hr => ms_cons (ms_while fuel (passes_of rfl) (mt_cmp (os_ne hr.units) (mv 1) me_int (nomark _)) (ms_one (ms_par (by rfl) sc_common_divisor.nd (i := 0) (j := 1) rfl rfl (by decide) rfl rfl (ma_cons (mv 1) (ma_cons (me_op os_modI (mv 0) (mv 1)) ma_nil)) (by rfl)))) (ms_one (ms_ret (me_callB cs_abs (by rfl) (T.f 101) (by decide +kernel) (ma_cons (mv 0) ma_nil))))
theorem okr_common_divisor (T : TX K mg) : FnR P w K mg base (L2.CX P w) 1 (ga K "common_divisor") (spM ⟨P, w, K⟩ (m_common_divisor cs)) := (okd_common_divisor T).r (fun _ _ _ _ _ _ us hl => match us, hl with | [_, _], _ => rfl)
end
end Lw
set_option Elab.async false
set_option linter.all false
set_option maxRecDepth 100000
set_option maxHeartbeats 4000000
namespace Lw
open PySem PySem.Spec PyProof.Rows L2 He Wl Mi
section
variable {P : Program} {w : World} {K : PySem.W.Frag} {mg : Str → Option Value} {base : Heap}
theorem x_cl (T : TX K mg) : SlX.SCls K (ga K "Ratio") := (kf T).rc
theorem x_up (T : TX K mg) : SlX.Slot1 K (ga K "Ratio") "up" (ma K (ga K "Ratio") "up") 1 := slotB_ok (xe T 2)
theorem x_dn (T : TX K mg) : SlX.Slot1 K (ga K "Ratio") "down" (ma K (ga K "Ratio") "down") 0 := slotB_ok (xe T 3)
theorem ok_init0 (T : TX K mg) : ∃ fd, FunD K "__init__" "Ratio.__init__" (defArgs s_Ratio___init__) (defBody s_Ratio___init__) (defScope s_Ratio___init__) [.int 1] [] (ma K (ga K "Ratio") "__init__") fd ∧
    FnOk P w K mg base (L2.CX P w) 3 (ma K (ga K "Ratio") "__init__") fd ["self", "top", "bottom"] (spInitR ⟨P, w, K⟩ cs) := by
  obtain ⟨fd, F⟩ := T.d 21
  refine ⟨fd, F, F.ok sc_Ratio___init__ (fun vs H Q E h => ?_) (fun cdv A outer s H vs Q E hr h => ?_)⟩
  · obtain ⟨a, dx, v, u, tv, tu, rfl, _⟩ := h; rfl
  · obtain ⟨a, dx, v, u, x, y, rfl, ha, hdx, nda, hx, hy, okx, oky, r1, r2, rz, ok⟩ := h
    refine ⟨_, pss_cons (ps_for (passes_of rfl) rfl (pi_list (pe_lst (pa_cons (pv 1) (pa_cons (pv 2) pa_nil)))) (pg_name (i := 3) sc_Ratio___init__.nd rfl (.inl rfl)) (pss_one (ps_if (pt_not (pt_val (pe_callR (okr_is_integer T) (hr.mono (by decide)) (T.kg 16) (by rfl) (T.g 1) passL (pa_cons (pv 3) pa_nil)))) (pss_one (ps_raise rfl (takes_of rfl rfl rfl rfl) (pmk_exc (xo_InvalidNumber T) (xi_InvalidNumber T) (ok_InvalidNumber___init__ T) (hr.mono (by decide)) passL (by rfl) (T.g 82) (pa_cons (pv 3) pa_nil)))) (pss_nil)))) (pss_cons (ps_if (pt_cmpR op_eq (pv 2) pe_int (nomark _)) (pss_one (ps_raise rfl (takes_of rfl rfl rfl rfl) (pmk_exc0 (xo_ByZero T) (xi_ByZero T) (ok_ByZero___init__ T) (hr.mono (by decide)) passL (by rfl) (T.g 96)))) (pss_nil)) (pss_cons (ps_set (i := 4) sc_Ratio___init__.nd rfl (.inl rfl) (pe_ifExp (pt_cmpR op_gt (pv 2) pe_int (nomark _)) (pe_callR (okr_common_divisor T) (hr.mono (by decide)) (T.kg 18) (by rfl) (T.g 3) passL (pa_cons (pv 1) (pa_cons (pv 2) pa_nil))) (pe_un un_neg (pe_callR (okr_common_divisor T) (hr.mono (by decide)) (T.kg 18) (by rfl) (T.g 3) passL (pa_cons (pv 1) (pa_cons (pv 2) pa_nil)))))) (pss_cons (SlX.ps_sl (pv 0) (pe_op op_fdivNW (pv 1) (pv 4))) (pss_one (SlX.ps_sl (pv 0) (pe_op op_fdivNW (pv 2) (pv 4))))))), ?_⟩
    refine ⟨_, rfl, _, rfl, sz 2, ?_⟩
    intro l nl; generalize he' : upd _ _ _ = H1; obtain ⟨s1, hl⟩ := new_facts nl he'; clear he'
    have hY : ∀ H' : Hp, Same H H' → ∀ b, (b = a ∨ b = dx) → ∃ o, H' b = some o := fun H' sm b z => by
      rcases z with rfl | rfl
      · exact ⟨_, sm _ _ ha⟩
      · exact ⟨_, sm _ _ hdx⟩
    have st : ∀ H' : Hp, Same H H' → ∀ {z : D} {t : V}, Rep ⟨P, w, K⟩ H (fun b => b = a ∨ b = dx) z t → Rep ⟨P, w, K⟩ H' (fun b => b = a ∨ b = dx) z t := fun H' sm {z t} h => h.stay ⟨fun b o e _ => sm b o e, fun _ _ _ q => q⟩
    refine ⟨l, rfl, ⟨_, SqL.of hl⟩, for_list (K := K) (a := l) (xs := [v, u]) (fun i σ H2 => Same H1 H2 ∧ (∃ z, σ = [some (.ref a), some v, some u, z, none]) ∧ (1 ≤ i → intD x = true) ∧ (2 ≤ i → intD y = true))
      ⟨fun _ _ e => e, ⟨none, rfl⟩, by omega, by omega⟩ (fun i σ H2 _ ⟨e, _⟩ => SqL.of (e _ _ hl)) ?_ ?_⟩
    · rintro i t σ H2 hi ⟨s2, ⟨z, rfl⟩, c1, c2⟩
      have s12 := s1.trans s2
      match i, hi with
      | 0, hi =>
        cases hi
        refine ⟨_, rfl, spM_one (hY H2 s12) (m_is_integer_eq okx) (st H2 s12 hx) fun H3 v' s3 rb => ?_⟩
        unfold Rep at rb
        subst rb
        refine ⟨_, rfl, ?_⟩
        refine ite2 (fun hc => ?_) (fun hc => ?_)
        · have hne : intD x = false := by simpa using hc
          exact ⟨_, rfl, (by simp), rd_exc1 fun d H4 s4 nd hd => r1 hne d H4 ((s12.trans s3).trans s4) ((s12.trans s3).free nd) hd⟩
        · have he : intD x = true := by simpa using hc
          exact ⟨s2.trans s3, ⟨_, rfl⟩, fun _ => he, fun q => absurd q (by omega)⟩
      | 1, hi =>
        cases hi
        refine ⟨_, rfl, spM_one (hY H2 s12) (m_is_integer_eq oky) (st H2 s12 hy) fun H3 v' s3 rb => ?_⟩
        unfold Rep at rb
        subst rb
        refine ⟨_, rfl, ?_⟩
        refine ite2 (fun hc => ?_) (fun hc => ?_)
        · have hne : intD y = false := by simpa using hc
          exact ⟨_, rfl, (by simp), rd_exc1 fun d H4 s4 nd hd => r2 (c1 (Nat.le_refl _)) hne d H4 ((s12.trans s3).trans s4) ((s12.trans s3).free nd) hd⟩
        · have he : intD y = true := by simpa using hc
          exact ⟨s2.trans s3, ⟨_, rfl⟩, fun _ => c1 (Nat.le_refl _), fun _ => he⟩
    · rintro σ H2 ⟨s2, ⟨z, rfl⟩, c1, c2⟩
      have s12 := s1.trans s2
      have e1 := c1 (by simp)
      have e2 := c2 (by simp)
      obtain ⟨p, rfl⟩ : ∃ p, x = .int p := by cases x <;> first | (cases e1; done) | exact ⟨_, rfl⟩
      obtain ⟨q, rfl⟩ : ∃ q, y = .int q := by cases y <;> first | (cases e2; done) | exact ⟨_, rfl⟩
      unfold Rep at hx hy
      subst hx hy
      refine ⟨_, rfl, rfl, _, rfl, ?_⟩
      refine ite2 (fun hc => ?_) (fun hc => ?_)
      · have hq : q = 0 := by simpa using hc
        exact ⟨(by simp), rd_exc0 fun H3 s3 => rz p q rfl rfl hq H3 (s12.trans s3)⟩
      · have hq : q ≠ 0 := fun e => hc (by simp [e])
        obtain ⟨bq, fin⟩ := ok p q rfl rfl hq
        have hg : Bd 8000 (gsg p q) := bq.le (gsg_le hq)
        have hl2 : (gsg p q).natAbs.log2 < 9000 := Nat.lt_of_lt_of_le (PySem.Flt.log2_lt_of (by decide) hg) (by decide)
        have bq' : q.natAbs < 2 ^ 20000 := (bq.mono (n := 20000) (by decide) : Bd 20000 q)
        refine ⟨_, rfl, _, _, rfl, rfl, _, rfl, ?_⟩
        have rest : ∀ (g : Int) (H3 : Hp), Same H2 H3 → g = gsg p q → (tSeq (SlX.sSl K (tVar 0) (tOp (rI CDivNW fun i j => V.int (i.fdiv j)) (tVar 1) (tVar 4)) "up") (SlX.sSl K (tVar 0) (tOp (rI CDivNW fun i j => V.int (i.fdiv j)) (tVar 2) (tVar 4)) "down"))
            { nx := fun _ H' => Q .non H', rt := Q } [some (.ref a), some (.int p), some (.int q), z, some (.int g)] H3 := by
          rintro g H3 s3 rfl
          have ha1 := s3 _ _ (s12 _ _ ha)
          refine ⟨_, rfl, _, rfl, p, gsg p q, rfl, rfl, ⟨gsg_ne hq, hl2⟩, _, rfl, a, _, dx, _, [], 1, rfl, .inl ⟨ha1, rfl⟩, x_cl T, x_up T, ?_⟩
          have S2 := SlX.slH_slt (H := H3) (a := a) (C := ga K "Ratio") (dx := dx) (vs := SlX.putS 1 (V.int (p.fdiv (gsg p q))) []) nda
          refine ⟨_, rfl, _, rfl, q, gsg p q, rfl, rfl, ⟨gsg_ne hq, hl2⟩, _, rfl, a, _, dx, _, _, 0, rfl, S2, x_cl T, x_dn T, ?_⟩
          rw [SlX.slH_twice nda]
          refine fin _ (fun b o e n1 n2 => ?_) (SlX.slH_slt nda)
          rw [SlX.slH_ne n1 n2]
          exact s3 b o (s12 b o e)
        refine ite2 (fun hc => ?_) (fun hc => ?_)
        · have hq0 : 0 < q := of_decide_eq_true hc
          refine ⟨_, rfl, _, rfl, spM_two (Y := fun b => b = a ∨ b = dx) (hY H2 s12) (m_common_divisor_eq (a := p) (b := q) bq') (rep_int p) (rep_int q) fun H3 v' s3 rb => ?_⟩
          unfold Rep at rb
          subst rb
          exact rest _ H3 s3 (by unfold gsg; rw [if_pos hq0])
        · have hq0 : ¬ 0 < q := fun h => hc (decide_eq_true h)
          refine ⟨_, rfl, _, rfl, spM_two (Y := fun b => b = a ∨ b = dx) (hY H2 s12) (m_common_divisor_eq (a := p) (b := q) bq') (rep_int p) (rep_int q) fun H3 v' s3 rb => ?_⟩
          unfold Rep at rb
          subst rb
          exact ⟨_, rfl, rest _ H3 s3 (by unfold gsg; rw [if_neg hq0])⟩
theorem ok_Ratio2 (T : TX K mg) : FnR P w K mg base (L2.CX P w) 3 (ma K (ga K "Ratio") "__init__") (spInitR ⟨P, w, K⟩ cs) := by
  obtain ⟨fd, F, G⟩ := ok_init0 (P := P) (w := w) (base := base) T
  obtain ⟨ds, hv, hb⟩ := F.binds1 (ps := ["self", "top", "bottom"]) 3 1 (by simp) rfl (fun T kV doc pm an cdv ct us its hl hi => match us, its, hl, hi with | [_, _, _], [_], _, _ => ⟨_, rfl, rfl⟩)
  exact (G.raw hb hv).imp fun vs H Q E h => by
    show spInitR ⟨P, w, K⟩ cs (vs ++ []) H Q E
    rw [List.append_nil]; exact h
theorem ok_Ratio1 (T : TX K mg) : FnR P w K mg base (L2.CX P w) 3 (ma K (ga K "Ratio") "__init__") (fun vs H Q E => spInitR ⟨P, w, K⟩ cs (vs ++ [.int 1]) H Q E) := by
  obtain ⟨fd, F, G⟩ := ok_init0 (P := P) (w := w) (base := base) T
  obtain ⟨ds, hv, hb⟩ := F.binds1 (ps := ["self", "top", "bottom"]) 2 0 (by simp) rfl (fun T kV doc pm an cdv ct us its hl hi => match us, its, hl, hi with | [_, _], [_], _, _ => ⟨_, rfl, rfl⟩)
  exact (G.raw hb hv).imp fun vs H Q E h => h
end
end Lw
set_option Elab.async false
set_option linter.all false
set_option maxRecDepth 100000
set_option maxHeartbeats 4000000
namespace Lw
open PySem PySem.Spec PyProof.Rows L2 He Wl Mi
section
variable {P : Program} {w : World} {K : PySem.W.Frag} {mg : Str → Option Value} {base : Heap}
theorem okd_Ratio_top (T : TX K mg) : FnD P w K mg base 1 (recFn K (ma K (ga K "Ratio") "top") "property") ["self"] (spM ⟨P, w, K⟩ (m_Ratio_top cs)) d_Ratio_top.name d_Ratio_top.qual d_Ratio_top.params d_Ratio_top.body d_Ratio_top.scope :=
  def_of (T.d 22) sc_Ratio_top rfl rfl fun cdv A outer s H E hr => ms_one (ms_ret (me_slt (kf T).rc (slotB_ok (xe T 2)) (by decide) (mv 0)))
theorem okr_Ratio_top (T : TX K mg) : FnR P w K mg base (L2.CX P w) 1 (recFn K (ma K (ga K "Ratio") "top") "property") (spM ⟨P, w, K⟩ (m_Ratio_top cs)) := (okd_Ratio_top T).r (fun _ _ _ _ _ _ us hl => match us, hl with | [_], _ => rfl)
theorem okd_Ratio_bottom (T : TX K mg) : FnD P w K mg base 1 (recFn K (ma K (ga K "Ratio") "bottom") "property") ["self"] (spM ⟨P, w, K⟩ (m_Ratio_bottom cs)) d_Ratio_bottom.name d_Ratio_bottom.qual d_Ratio_bottom.params d_Ratio_bottom.body d_Ratio_bottom.scope :=
  def_of (T.d 23) sc_Ratio_bottom rfl rfl fun cdv A outer s H E hr => ms_one (ms_ret (me_slt (kf T).rc (slotB_ok (xe T 3)) (by decide) (mv 0)))
theorem okr_Ratio_bottom (T : TX K mg) : FnR P w K mg base (L2.CX P w) 1 (recFn K (ma K (ga K "Ratio") "bottom") "property") (spM ⟨P, w, K⟩ (m_Ratio_bottom cs)) := (okd_Ratio_bottom T).r (fun _ _ _ _ _ _ us hl => match us, hl with | [_], _ => rfl)
theorem okd_parts (T : TX K mg) : FnD P w K mg base 5 (ga K "parts") ["number"] (spM ⟨P, w, K⟩ (m_parts cs)) d_parts.name d_parts.qual d_parts.params d_parts.body d_parts.scope :=
  def_of (T.d 19) sc_parts rfl rfl fun cdv A outer s H E hr => ms_cons (ms_if (mt_val (me_callB (cs_isi (kf T)) (by rfl) (T.f 109) (by decide +kernel) (ma_cons (mv 0) (ma_cons (me_gl (pe_glob (v := .ref (ga K "Ratio")) (by rfl) (T.g 97) rfl)) ma_nil)))) (ms_one (ms_ret (me_tup (ma_cons (me_prp (kf T).rc (propB_ok (xe T 49)) (okr_Ratio_top T) (hr.mono (by decide)) (mv 0)) (ma_cons (me_prp (kf T).rc (propB_ok (xe T 50)) (okr_Ratio_bottom T) (hr.mono (by decide)) (mv 0)) ma_nil))))) (ms_nil)) (ms_one (ms_ret (me_tup (ma_cons (mv 0) (ma_cons me_int ma_nil)))))
theorem okr_parts (T : TX K mg) : FnR P w K mg base (L2.CX P w) 5 (ga K "parts") (spM ⟨P, w, K⟩ (m_parts cs)) := (okd_parts T).r (fun _ _ _ _ _ _ us hl => match us, hl with | [_], _ => rfl)
theorem okd_Ratio___add__ (T : TX K mg) : FnD P w K mg base 6 (ma K (ga K "Ratio") "__add__") ["self", "other"] (spM ⟨P, w, K⟩ (m_Ratio___add__ cs)) d_Ratio___add__.name d_Ratio___add__.qual d_Ratio___add__.params d_Ratio___add__.body d_Ratio___add__.scope :=
  def_of (T.d 25) sc_Ratio___add__ rfl rfl fun cdv A outer s H E hr => ms_cons (ms_asg (us := [2, 3]) (me_call wayP (okr_parts T) (hr.mono (by decide)) (T.kg 19) (by rfl) (T.g 4) (takes_of rfl rfl rfl rfl) (ma_cons (mv 1) ma_nil)) (mg_tup rfl (mgs_cons (mg_name (i := 2) sc_Ratio___add__.nd rfl (.inl rfl)) (mgs_cons (mg_name (i := 3) sc_Ratio___add__.nd rfl (.inl rfl)) mgs_nil)))) (ms_one (ms_ret (me_new wayNR (mkB_ok (xe T 4)) (ok_Ratio2 T) (hr.mono (by decide)) (by rfl) (T.g 97) (takes_of rfl rfl rfl rfl) (ma_cons (me_op os_add (me_op os_mul (me_slt (kf T).rc (slotB_ok (xe T 2)) (by decide) (mv 0)) (mv 3)) (me_op os_mul (mv 2) (me_slt (kf T).rc (slotB_ok (xe T 3)) (by decide) (mv 0)))) (ma_cons (me_op os_mul (me_slt (kf T).rc (slotB_ok (xe T 3)) (by decide) (mv 0)) (mv 3)) ma_nil)))))
theorem okr_Ratio___add__ (T : TX K mg) : FnR P w K mg base (L2.CX P w) 6 (ma K (ga K "Ratio") "__add__") (spM ⟨P, w, K⟩ (m_Ratio___add__ cs)) := (okd_Ratio___add__ T).r (fun _ _ _ _ _ _ us hl => match us, hl with | [_, _], _ => rfl)
theorem okd_Ratio___sub__ (T : TX K mg) : FnD P w K mg base 6 (ma K (ga K "Ratio") "__sub__") ["self", "other"] (spM ⟨P, w, K⟩ (m_Ratio___sub__ cs)) d_Ratio___sub__.name d_Ratio___sub__.qual d_Ratio___sub__.params d_Ratio___sub__.body d_Ratio___sub__.scope :=
  def_of (T.d 26) sc_Ratio___sub__ rfl rfl fun cdv A outer s H E hr => ms_cons (ms_asg (us := [2, 3]) (me_call wayP (okr_parts T) (hr.mono (by decide)) (T.kg 19) (by rfl) (T.g 4) (takes_of rfl rfl rfl rfl) (ma_cons (mv 1) ma_nil)) (mg_tup rfl (mgs_cons (mg_name (i := 2) sc_Ratio___sub__.nd rfl (.inl rfl)) (mgs_cons (mg_name (i := 3) sc_Ratio___sub__.nd rfl (.inl rfl)) mgs_nil)))) (ms_one (ms_ret (me_new wayNR (mkB_ok (xe T 4)) (ok_Ratio2 T) (hr.mono (by decide)) (by rfl) (T.g 97) (takes_of rfl rfl rfl rfl) (ma_cons (me_op os_subI (me_op os_mul (me_slt (kf T).rc (slotB_ok (xe T 2)) (by decide) (mv 0)) (mv 3)) (me_op os_mul (mv 2) (me_slt (kf T).rc (slotB_ok (xe T 3)) (by decide) (mv 0)))) (ma_cons (me_op os_mul (me_slt (kf T).rc (slotB_ok (xe T 3)) (by decide) (mv 0)) (mv 3)) ma_nil)))))
theorem okr_Ratio___sub__ (T : TX K mg) : FnR P w K mg base (L2.CX P w) 6 (ma K (ga K "Ratio") "__sub__") (spM ⟨P, w, K⟩ (m_Ratio___sub__ cs)) := (okd_Ratio___sub__ T).r (fun _ _ _ _ _ _ us hl => match us, hl with | [_, _], _ => rfl)
theorem okd_Ratio___mul__ (T : TX K mg) : FnD P w K mg base 6 (ma K (ga K "Ratio") "__mul__") ["self", "other"] (spM ⟨P, w, K⟩ (m_Ratio___mul__ cs)) d_Ratio___mul__.name d_Ratio___mul__.qual d_Ratio___mul__.params d_Ratio___mul__.body d_Ratio___mul__.scope :=
  def_of (T.d 27) sc_Ratio___mul__ rfl rfl fun cdv A outer s H E hr => ms_cons (ms_asg (us := [2, 3]) (me_call wayP (okr_parts T) (hr.mono (by decide)) (T.kg 19) (by rfl) (T.g 4) (takes_of rfl rfl rfl rfl) (ma_cons (mv 1) ma_nil)) (mg_tup rfl (mgs_cons (mg_name (i := 2) sc_Ratio___mul__.nd rfl (.inl rfl)) (mgs_cons (mg_name (i := 3) sc_Ratio___mul__.nd rfl (.inl rfl)) mgs_nil)))) (ms_one (ms_ret (me_new wayNR (mkB_ok (xe T 4)) (ok_Ratio2 T) (hr.mono (by decide)) (by rfl) (T.g 97) (takes_of rfl rfl rfl rfl) (ma_cons (me_op os_mul (me_slt (kf T).rc (slotB_ok (xe T 2)) (by decide) (mv 0)) (mv 2)) (ma_cons (me_op os_mul (me_slt (kf T).rc (slotB_ok (xe T 3)) (by decide) (mv 0)) (mv 3)) ma_nil)))))
theorem okr_Ratio___mul__ (T : TX K mg) : FnR P w K mg base (L2.CX P w) 6 (ma K (ga K "Ratio") "__mul__") (spM ⟨P, w, K⟩ (m_Ratio___mul__ cs)) := (okd_Ratio___mul__ T).r (fun _ _ _ _ _ _ us hl => match us, hl with | [_, _], _ => rfl)
theorem okd_is_number (T : TX K mg) : FnD P w K mg base 5 (ga K "is_number") ["value"] (spM ⟨P, w, K⟩ (m_is_number cs)) d_is_number.name d_is_number.qual d_is_number.params d_is_number.body d_is_number.scope :=
  def_of (T.d 33) sc_is_number rfl rfl fun cdv A outer s H E hr => ms_one (ms_ret (me_or (me_callB (cs_isi (kf T)) (by rfl) (T.f 109) (by decide +kernel) (ma_cons (mv 0) (ma_cons (me_gl (pe_glob (v := .ref (ga K "Ratio")) (by rfl) (T.g 97) rfl)) ma_nil))) (me_one (me_call wayP (okr_is_integer T) (hr.mono (by decide)) (T.kg 16) (by rfl) (T.g 1) (takes_of rfl rfl rfl rfl) (ma_cons (mv 0) ma_nil)))))
theorem okr_is_number (T : TX K mg) : FnR P w K mg base (L2.CX P w) 5 (ga K "is_number") (spM ⟨P, w, K⟩ (m_is_number cs)) := (okd_is_number T).r (fun _ _ _ _ _ _ us hl => match us, hl with | [_], _ => rfl)
theorem okd_Ratio___eq__ (T : TX K mg) : FnD P w K mg base 6 (ma K (ga K "Ratio") "__eq__") ["self", "other"] (spM ⟨P, w, K⟩ (m_Ratio___eq__ cs)) d_Ratio___eq__.name d_Ratio___eq__.qual d_Ratio___eq__.params d_Ratio___eq__.body d_Ratio___eq__.scope :=
  def_of (T.d 30) sc_Ratio___eq__ rfl rfl fun cdv A outer s H E hr => ms_cons (ms_if (mt_not (mt_val (me_call wayP (okr_is_number T) (hr.mono (by decide)) (T.kg 33) (by rfl) (T.g 6) (takes_of rfl rfl rfl rfl) (ma_cons (mv 1) ma_nil)))) (ms_one (ms_ret me_bl)) (ms_nil)) (ms_one (ms_ret (me_cmp (os_eq hr.units) (me_tup (ma_cons (me_slt (kf T).rc (slotB_ok (xe T 2)) (by decide) (mv 0)) (ma_cons (me_slt (kf T).rc (slotB_ok (xe T 3)) (by decide) (mv 0)) ma_nil))) (me_call wayP (okr_parts T) (hr.mono (by decide)) (T.kg 19) (by rfl) (T.g 4) (takes_of rfl rfl rfl rfl) (ma_cons (mv 1) ma_nil)) (nomark _))))
theorem okr_Ratio___eq__ (T : TX K mg) : FnR P w K mg base (L2.CX P w) 6 (ma K (ga K "Ratio") "__eq__") (spM ⟨P, w, K⟩ (m_Ratio___eq__ cs)) := (okd_Ratio___eq__ T).r (fun _ _ _ _ _ _ us hl => match us, hl with | [_, _], _ => rfl)
theorem okd_Ratio_below (T : TX K mg) : FnD P w K mg base 6 (ma K (ga K "Ratio") "below") ["self", "number"] (spM ⟨P, w, K⟩ (m_Ratio_below cs)) d_Ratio_below.name d_Ratio_below.qual d_Ratio_below.params d_Ratio_below.body d_Ratio_below.scope :=
  def_of (T.d 31) sc_Ratio_below rfl rfl fun cdv A outer s H E hr => ms_cons (ms_asg (us := [2, 3]) (me_call wayP (okr_parts T) (hr.mono (by decide)) (T.kg 19) (by rfl) (T.g 4) (takes_of rfl rfl rfl rfl) (ma_cons (mv 1) ma_nil)) (mg_tup rfl (mgs_cons (mg_name (i := 2) sc_Ratio_below.nd rfl (.inl rfl)) (mgs_cons (mg_name (i := 3) sc_Ratio_below.nd rfl (.inl rfl)) mgs_nil)))) (ms_one (ms_ret (me_cmp os_lt (me_op os_mul (me_slt (kf T).rc (slotB_ok (xe T 2)) (by decide) (mv 0)) (mv 3)) (me_op os_mul (mv 2) (me_slt (kf T).rc (slotB_ok (xe T 3)) (by decide) (mv 0))) (nomark _))))
theorem okr_Ratio_below (T : TX K mg) : FnR P w K mg base (L2.CX P w) 6 (ma K (ga K "Ratio") "below") (spM ⟨P, w, K⟩ (m_Ratio_below cs)) := (okd_Ratio_below T).r (fun _ _ _ _ _ _ us hl => match us, hl with | [_, _], _ => rfl)
theorem okd_Ratio_text (T : TX K mg) : FnD P w K mg base 1 (ma K (ga K "Ratio") "text") ["self"] (spM ⟨P, w, K⟩ (m_Ratio_text cs)) d_Ratio_text.name d_Ratio_text.qual d_Ratio_text.params d_Ratio_text.body d_Ratio_text.scope :=
  def_of (T.d 32) sc_Ratio_text rfl rfl fun cdv A outer s H E hr => ms_one (ms_ret (me_if (mt_cmp (os_eq hr.units) (me_slt (kf T).rc (slotB_ok (xe T 3)) (by decide) (mv 0)) me_int (nomark _)) (me_callTy cs_strI (by rfl) (T.f 117) (by decide +kernel) (ma_cons (me_slt (kf T).rc (slotB_ok (xe T 2)) (by decide) (mv 0)) ma_nil)) (me_joined (.cons (me_fmt (me_slt (kf T).rc (slotB_ok (xe T 2)) (by decide) (mv 0))) (.cons me_str (.cons (me_fmt (me_slt (kf T).rc (slotB_ok (xe T 3)) (by decide) (mv 0))) EJ.nil))))))
theorem okr_Ratio_text (T : TX K mg) : FnR P w K mg base (L2.CX P w) 1 (ma K (ga K "Ratio") "text") (spM ⟨P, w, K⟩ (m_Ratio_text cs)) := (okd_Ratio_text T).r (fun _ _ _ _ _ _ us hl => match us, hl with | [_], _ => rfl)
theorem okd_as_ratio (T : TX K mg) : FnD P w K mg base 6 (ga K "as_ratio") ["number"] (spM ⟨P, w, K⟩ (m_as_ratio cs)) d_as_ratio.name d_as_ratio.qual d_as_ratio.params d_as_ratio.body d_as_ratio.scope :=
  def_of (T.d 35) sc_as_ratio rfl rfl fun cdv A outer s H E hr => ms_cons (ms_if (mt_not (mt_val (me_call wayP (okr_is_number T) (hr.mono (by decide)) (T.kg 33) (by rfl) (T.g 6) (takes_of rfl rfl rfl rfl) (ma_cons (mv 0) ma_nil)))) (ms_one (ms_raise1 rfl (takes_of rfl rfl rfl rfl) (xo_InvalidNumber T) (xi_InvalidNumber T) (ok_InvalidNumber___init__ T) (hr.mono (by decide)) passL (by rfl) (T.g 82) (ma_cons (mv 0) ma_nil))) (ms_nil)) (ms_cons (ms_asg (us := [1, 2]) (me_call wayP (okr_parts T) (hr.mono (by decide)) (T.kg 19) (by rfl) (T.g 4) (takes_of rfl rfl rfl rfl) (ma_cons (mv 0) ma_nil)) (mg_tup rfl (mgs_cons (mg_name (i := 1) sc_as_ratio.nd rfl (.inl rfl)) (mgs_cons (mg_name (i := 2) sc_as_ratio.nd rfl (.inl rfl)) mgs_nil)))) (ms_one (ms_ret (me_new wayNR (mkB_ok (xe T 4)) (ok_Ratio2 T) (hr.mono (by decide)) (by rfl) (T.g 97) (takes_of rfl rfl rfl rfl) (ma_cons (mv 1) (ma_cons (mv 2) ma_nil))))))
theorem okr_as_ratio (T : TX K mg) : FnR P w K mg base (L2.CX P w) 6 (ga K "as_ratio") (spM ⟨P, w, K⟩ (m_as_ratio cs)) := (okd_as_ratio T).r (fun _ _ _ _ _ _ us hl => match us, hl with | [_], _ => rfl)
theorem okd_need_numbers (T : TX K mg) : FnD P w K mg base 6 (ga K "need_numbers") ["numbers", "fewest"] (spM ⟨P, w, K⟩ (m_need_numbers cs)) d_need_numbers.name d_need_numbers.qual d_need_numbers.params d_need_numbers.body d_need_numbers.scope :=
  def_of (T.d 36) sc_need_numbers rfl rfl fun cdv A outer s H E hr => ms_one (ms_if (PW.pt (mw_or (mt_not (mt_val (me_call wayP (okr_is_list T) (hr.mono (by decide)) (T.kg 17) (by rfl) (T.g 2) (takes_of rfl rfl rfl rfl) (ma_cons (mv 0) ma_nil)))) (mw_or (mt_cmp os_lt (me_callB cs_LEN (by rfl) (T.f 110) (by decide +kernel) (ma_cons (mv 0) ma_nil)) (mv 1) (nomark _)) (mw_or1 (mt_val (me_callB (cs_any rfl) (by rfl) (T.f 103) (by decide +kernel) (ma_cons (me_lc (own := [("item", 2)]) false (by rfl) sc_need_numbers.nd (mi_seq (mv 0)) (blkOk_by (own := [("item", 2)]) (N := ["numbers", "fewest", "item"]) (sc := defScope s_need_numbers) (by decide +kernel)) (fun _ _ _ _ _ => (mg_name (i := 2) sc_need_numbers.nd rfl (by first | exact .inl rfl | exact .inr rfl))) (fun _ _ _ _ _ => mts_nil) (fun _ _ _ _ _ => (me_not (me_call wayP (okr_is_number T) (hr.mono (by decide)) (T.kg 33) (by rfl) (T.g 6) takes_F (ma_cons (mv 2) ma_nil))))) ma_nil))))))) (ms_one (ms_raise1 rfl (takes_of rfl rfl rfl rfl) (xo_InvalidNumber T) (xi_InvalidNumber T) (ok_InvalidNumber___init__ T) (hr.mono (by decide)) passL (by rfl) (T.g 82) (ma_cons (mv 0) ma_nil))) (ms_nil))
theorem okr_need_numbers (T : TX K mg) : FnR P w K mg base (L2.CX P w) 6 (ga K "need_numbers") (spM ⟨P, w, K⟩ (m_need_numbers cs)) := (okd_need_numbers T).r (fun _ _ _ _ _ _ us hl => match us, hl with | [_, _], _ => rfl)
theorem okd_total (T : TX K mg) : FnD P w K mg base 8 (ga K "total") ["numbers"] (spM ⟨P, w, K⟩ (m_total cs)) d_total.name d_total.qual d_total.params d_total.body d_total.scope :=
  def_of (T.d 37) sc_total rfl rfl fun cdv A outer s H E hr => ms_cons (ms_expr (me_call wayP (okr_need_numbers T) (hr.mono (by decide)) (T.kg 36) (by rfl) (T.g 9) (takes_of rfl rfl rfl rfl) (ma_cons (mv 0) (ma_cons me_int ma_nil)))) (ms_cons (ms_set (i := 1) sc_total.nd rfl (.inl rfl) (me_new wayNR1 (mkB_ok (xe T 4)) (ok_Ratio1 T) (hr.mono (by decide)) (by rfl) (T.g 97) (takes_of rfl rfl rfl rfl) (ma_cons me_int ma_nil))) (ms_cons (ms_for (us := [2]) (passes_of rfl) rfl (mi_seq (mv 0)) (mg_name (i := 2) sc_total.nd rfl (.inl rfl)) (ms_one (ms_set (i := 1) sc_total.nd rfl (.inl rfl) (me_op (os_binR (nm := "add") rfl (ownOpB_ok (xe T 53)) (okr_Ratio___add__ T) (hr.mono (by decide))) (mv 1) (mv 2))))) (ms_one (ms_ret (mv 1)))))
theorem okr_total (T : TX K mg) : FnR P w K mg base (L2.CX P w) 8 (ga K "total") (spM ⟨P, w, K⟩ (m_total cs)) := (okd_total T).r (fun _ _ _ _ _ _ us hl => match us, hl with | [_], _ => rfl)
end
end Lw
set_option Elab.async false
set_option linter.all false
set_option maxRecDepth 100000
set_option maxHeartbeats 4000000
namespace Lw
open PySem PySem.Spec PyProof.Rows L2 He Wl Mi
section
variable {P : Program} {w : World} {K : PySem.W.Frag} {mg : Str → Option Value} {base : Heap}
theorem okd_is_name (T : TX K mg) : FnD P w K mg base 1 (ga K "is_name") ["value"] (spM ⟨P, w, K⟩ (m_is_name cs)) d_is_name.name d_is_name.qual d_is_name.params d_is_name.body d_is_name.scope :=
  def_of (T.d 39) sc_is_name rfl rfl fun cdv A outer s H E hr => ms_cons (ms_if (PW.pt (mw_or (mt_not (mt_val (me_callB (cs_isi (kf T)) (by rfl) (T.f 109) (by decide +kernel) (ma_cons (mv 0) (ma_cons (me_ty (pe_bltn (v := .ty "str") (u := .type "str") (by rfl) (T.f 117) (by decide +kernel) rfl)) ma_nil))))) (mw_or1 (mt_not (mt_chain os_le os_le me_int (me_callB cs_LEN (by rfl) (T.f 110) (by decide +kernel) (ma_cons (mv 0) ma_nil)) (me_cint (T.cint 126))))))) (ms_one (ms_ret me_bl)) (ms_nil)) (ms_one (ms_ret (me_callB (cs_all rfl) (by rfl) (T.f 102) (by decide +kernel) (ma_cons (me_lc (own := [("sign", 1)]) false (by rfl) sc_is_name.nd (mi_str (mv 0)) (blkOk_by (own := [("sign", 1)]) (N := ["value", "sign"]) (sc := defScope s_is_name) (by decide +kernel)) (fun _ _ _ _ _ => (mg_name (i := 1) sc_is_name.nd rfl (by first | exact .inl rfl | exact .inr rfl))) (fun _ _ _ _ _ => mts_nil) (fun _ _ _ _ _ => (me_chain os_le os_le me_str (mv 1) me_str))) ma_nil))))
theorem okr_is_name (T : TX K mg) : FnR P w K mg base (L2.CX P w) 1 (ga K "is_name") (spM ⟨P, w, K⟩ (m_is_name cs)) := (okd_is_name T).r (fun _ _ _ _ _ _ us hl => match us, hl with | [_], _ => rfl)
theorem okd_need_chance (T : TX K mg) : FnD P w K mg base 7 (ga K "need_chance") ["value"] (spM ⟨P, w, K⟩ (m_need_chance cs)) d_need_chance.name d_need_chance.qual d_need_chance.params d_need_chance.body d_need_chance.scope :=
  def_of (T.d 40) sc_need_chance rfl rfl fun cdv A outer s H E hr => ms_one (ms_if (PW.pt (mw_or (mt_not (mt_val (me_call wayP (okr_is_number T) (hr.mono (by decide)) (T.kg 33) (by rfl) (T.g 6) (takes_of rfl rfl rfl rfl) (ma_cons (mv 0) ma_nil)))) (mw_or1 (mt_not (mt_val (me_methS wayP (me_new wayNR1 (mkB_ok (xe T 4)) (ok_Ratio1 T) (hr.mono (by decide)) (by rfl) (T.g 97) (takes_of rfl rfl rfl rfl) (ma_cons me_int ma_nil)) (kf T).rc (methB_ok (xe T 61)) (okr_Ratio_below T) (hr.mono (by decide)) (takes_of rfl rfl rfl rfl) (ma_cons (mv 0) ma_nil))))))) (ms_one (ms_raise1 rfl (takes_of rfl rfl rfl rfl) (xo_InvalidChance T) (xi_InvalidChance T) (ok_InvalidChance___init__ T) (hr.mono (by decide)) passL (by rfl) (T.g 86) (ma_cons (mv 0) ma_nil))) (ms_nil))
theorem okr_need_chance (T : TX K mg) : FnR P w K mg base (L2.CX P w) 7 (ga K "need_chance") (spM ⟨P, w, K⟩ (m_need_chance cs)) := (okd_need_chance T).r (fun _ _ _ _ _ _ us hl => match us, hl with | [_], _ => rfl)
theorem okd_need_two (T : TX K mg) : FnD P w K mg base 3 (ga K "need_two") ["item"] (spM ⟨P, w, K⟩ (m_need_two cs)) d_need_two.name d_need_two.qual d_need_two.params d_need_two.body d_need_two.scope :=
  def_of (T.d 41) sc_need_two rfl rfl fun cdv A outer s H E hr => ms_one (ms_if (PW.pt (mw_or (mt_not (mt_val (me_callB (cs_isi (kf T)) (by rfl) (T.f 109) (by decide +kernel) (ma_cons (mv 0) (ma_cons (me_ty (pe_bltn (v := .ty "tuple") (u := .type "tuple") (by rfl) (T.f 119) (by decide +kernel) rfl)) ma_nil))))) (mw_or1 (mt_cmp (os_ne hr.units) (me_callB cs_LEN (by rfl) (T.f 110) (by decide +kernel) (ma_cons (mv 0) ma_nil)) me_int (nomark _))))) (ms_one (ms_raise1 rfl (takes_of rfl rfl rfl rfl) (xo_InvalidHouse T) (xi_InvalidHouse T) (ok_InvalidHouse___init__ T) (hr.mono (by decide)) passL (by rfl) (T.g 85) (ma_cons (mv 0) ma_nil))) (ms_nil))
theorem okr_need_two (T : TX K mg) : FnR P w K mg base (L2.CX P w) 3 (ga K "need_two") (spM ⟨P, w, K⟩ (m_need_two cs)) := (okd_need_two T).r (fun _ _ _ _ _ _ us hl => match us, hl with | [_], _ => rfl)
theorem okd_need_few (T : TX K mg) : FnD P w K mg base 3 (ga K "need_few") ["items", "most"] (spM ⟨P, w, K⟩ (m_need_few cs)) d_need_few.name d_need_few.qual d_need_few.params d_need_few.body d_need_few.scope :=
  def_of (T.d 42) sc_need_few rfl rfl fun cdv A outer s H E hr => ms_one (ms_if (PW.pt (mw_or (mt_not (mt_val (me_call wayP (okr_is_list T) (hr.mono (by decide)) (T.kg 17) (by rfl) (T.g 2) (takes_of rfl rfl rfl rfl) (ma_cons (mv 0) ma_nil)))) (mw_or1 (mt_not (mt_chain os_le os_le me_int (me_callB cs_LEN (by rfl) (T.f 110) (by decide +kernel) (ma_cons (mv 0) ma_nil)) (mv 1)))))) (ms_one (ms_raise1 rfl (takes_of rfl rfl rfl rfl) (xo_InvalidHouse T) (xi_InvalidHouse T) (ok_InvalidHouse___init__ T) (hr.mono (by decide)) passL (by rfl) (T.g 85) (ma_cons (mv 0) ma_nil))) (ms_nil))
theorem okr_need_few (T : TX K mg) : FnR P w K mg base (L2.CX P w) 3 (ga K "need_few") (spM ⟨P, w, K⟩ (m_need_few cs)) := (okd_need_few T).r (fun _ _ _ _ _ _ us hl => match us, hl with | [_, _], _ => rfl)
theorem okd_need_new_name (T : TX K mg) : FnD P w K mg base 3 (ga K "need_new_name") ["name", "known"] (spM ⟨P, w, K⟩ (m_need_new_name cs)) d_need_new_name.name d_need_new_name.qual d_need_new_name.params d_need_new_name.body d_need_new_name.scope :=
  def_of (T.d 43) sc_need_new_name rfl rfl fun cdv A outer s H E hr => ms_cons (ms_if (mt_not (mt_val (me_call wayP (okr_is_name T) (hr.mono (by decide)) (T.kg 39) (by rfl) (T.g 12) (takes_of rfl rfl rfl rfl) (ma_cons (mv 0) ma_nil)))) (ms_one (ms_raise1 rfl (takes_of rfl rfl rfl rfl) (xo_InvalidName T) (xi_InvalidName T) (ok_InvalidName___init__ T) (hr.mono (by decide)) passL (by rfl) (T.g 84) (ma_cons (mv 0) ma_nil))) (ms_nil)) (ms_one (ms_if (mt_cmp (os_IN hr.units) (mv 0) (mv 1) (by rfl)) (ms_one (ms_raise1 rfl (takes_of rfl rfl rfl rfl) (xo_Duplicate T) (xi_Duplicate T) (ok_Duplicate___init__ T) (hr.mono (by decide)) passL (by rfl) (T.g 92) (ma_cons (mv 0) ma_nil))) (ms_nil)))
theorem okr_need_new_name (T : TX K mg) : FnR P w K mg base (L2.CX P w) 3 (ga K "need_new_name") (spM ⟨P, w, K⟩ (m_need_new_name cs)) := (okd_need_new_name T).r (fun _ _ _ _ _ _ us hl => match us, hl with | [_, _], _ => rfl)
theorem okd_told_kinds (T : TX K mg) : FnD P w K mg base 9 (ga K "told_kinds") ["kinds", "plain"] (spM ⟨P, w, K⟩ (m_told_kinds cs)) d_told_kinds.name d_told_kinds.qual d_told_kinds.params d_told_kinds.body d_told_kinds.scope :=
  def_of (T.d 44) sc_told_kinds rfl rfl fun cdv A outer s H E hr => ms_cons (ms_expr (me_call wayP (okr_need_few T) (hr.mono (by decide)) (T.kg 42) (by rfl) (T.g 15) (takes_of rfl rfl rfl rfl) (ma_cons (mv 0) (ma_cons (me_cint (T.cint 124)) ma_nil)))) (ms_cons (ms_par (by rfl) sc_told_kinds.nd (i := 2) (j := 3) rfl rfl (by decide) rfl rfl (ma_cons (me_lstO ma_nil) (ma_cons (me_lstO ma_nil) ma_nil)) (by rfl)) (ms_cons (ms_for (us := [4]) (passes_of rfl) rfl (mi_seq (mv 0)) (mg_name (i := 4) sc_told_kinds.nd rfl (.inl rfl)) (ms_one (ms_if (mt_val (mv 1)) (ms_cons (ms_expr (me_call wayT (okr_need_new_name T) (hr.mono (by decide)) (T.kg 43) (by rfl) (T.g 16) (takes_of rfl rfl rfl rfl) (ma_cons (mv 4) (ma_cons (mv 2) ma_nil)))) (ms_one (ms_expr (me_bm tyL_ok PySem.F.plainAttrs_list PySem.F.slot_list_append PySem.F.type_list_append mq_append (mv 2) (ma_cons (mv 4) ma_nil))))) (ms_cons (ms_expr (me_call wayP (okr_need_two T) (hr.mono (by decide)) (T.kg 41) (by rfl) (T.g 14) (takes_of rfl rfl rfl rfl) (ma_cons (mv 4) ma_nil))) (ms_cons (ms_expr (me_call wayT (okr_need_new_name T) (hr.mono (by decide)) (T.kg 43) (by rfl) (T.g 16) (takes_of rfl rfl rfl rfl) (ma_cons (me_ix (is_IX hr.units) (mv 4) me_int (fun _ _ => rfl)) (ma_cons (mv 2) ma_nil)))) (ms_cons (ms_expr (me_call wayP (okr_need_chance T) (hr.mono (by decide)) (T.kg 40) (by rfl) (T.g 13) (takes_of rfl rfl rfl rfl) (ma_cons (me_ix (is_IX hr.units) (mv 4) me_int (fun _ _ => rfl)) ma_nil))) (ms_cons (ms_expr (me_bm tyL_ok PySem.F.plainAttrs_list PySem.F.slot_list_append PySem.F.type_list_append mq_append (mv 2) (ma_cons (me_ix (is_IX hr.units) (mv 4) me_int (fun _ _ => rfl)) ma_nil))) (ms_one (ms_expr (me_bm tyL_ok PySem.F.plainAttrs_list PySem.F.slot_list_append PySem.F.type_list_append mq_append (mv 3) (ma_cons (me_call wayP (okr_as_ratio T) (hr.mono (by decide)) (T.kg 35) (by rfl) (T.g 8) (takes_of rfl rfl rfl rfl) (ma_cons (me_ix (is_IX hr.units) (mv 4) me_int (fun _ _ => rfl)) ma_nil)) ma_nil))))))))))) (ms_cons (ms_if (mt_val (me_methS wayP (me_new wayNR1 (mkB_ok (xe T 4)) (ok_Ratio1 T) (hr.mono (by decide)) (by rfl) (T.g 97) (takes_of rfl rfl rfl rfl) (ma_cons me_int ma_nil)) (kf T).rc (methB_ok (xe T 61)) (okr_Ratio_below T) (hr.mono (by decide)) (takes_of rfl rfl rfl rfl) (ma_cons (me_call wayT (okr_total T) (hr.mono (by decide)) (T.kg 37) (by rfl) (T.g 10) (takes_of rfl rfl rfl rfl) (ma_cons (mv 3) ma_nil)) ma_nil))) (ms_one (ms_raise1 rfl (takes_of rfl rfl rfl rfl) (xo_InvalidChance T) (xi_InvalidChance T) (ok_InvalidChance___init__ T) (hr.mono (by decide)) passL (by rfl) (T.g 86) (ma_cons (me_call wayT (okr_total T) (hr.mono (by decide)) (T.kg 37) (by rfl) (T.g 10) (takes_of rfl rfl rfl rfl) (ma_cons (mv 3) ma_nil)) ma_nil))) (ms_nil)) (ms_one (ms_ret (me_tup (ma_cons (mv 2) (ma_cons (mv 3) ma_nil))))))))
theorem okr_told_kinds (T : TX K mg) : FnR P w K mg base (L2.CX P w) 9 (ga K "told_kinds") (spM ⟨P, w, K⟩ (m_told_kinds cs)) := (okd_told_kinds T).r (fun _ _ _ _ _ _ us hl => match us, hl with | [_, _], _ => rfl)
theorem okd_told_bidders (T : TX K mg) : FnD P w K mg base 10 (ga K "told_bidders") ["bidders", "plain"] (spM ⟨P, w, K⟩ (m_told_bidders cs)) d_told_bidders.name d_told_bidders.qual d_told_bidders.params d_told_bidders.body d_told_bidders.scope :=
  def_of (T.d 45) sc_told_bidders rfl rfl fun cdv A outer s H E hr => ms_cons (ms_expr (me_call wayP (okr_need_few T) (hr.mono (by decide)) (T.kg 42) (by rfl) (T.g 15) (takes_of rfl rfl rfl rfl) (ma_cons (mv 0) (ma_cons (me_cint (T.cint 123)) ma_nil)))) (ms_cons (ms_par3 (by rfl) sc_told_bidders.nd (i := 2) (j := 3) (l := 4) rfl rfl rfl (by decide) (by decide) (by decide) rfl rfl rfl (ma_cons (me_lstO ma_nil) (ma_cons (me_lstO ma_nil) (ma_cons (me_lstO ma_nil) ma_nil))) (by rfl)) (ms_cons (ms_for (us := [5]) (passes_of rfl) rfl (mi_seq (mv 0)) (mg_name (i := 5) sc_told_bidders.nd rfl (.inl rfl)) (ms_cons (ms_expr (me_call wayP (okr_need_two T) (hr.mono (by decide)) (T.kg 41) (by rfl) (T.g 14) (takes_of rfl rfl rfl rfl) (ma_cons (mv 5) ma_nil))) (ms_cons (ms_expr (me_call wayT (okr_need_new_name T) (hr.mono (by decide)) (T.kg 43) (by rfl) (T.g 16) (takes_of rfl rfl rfl rfl) (ma_cons (me_ix (is_IX hr.units) (mv 5) me_int (fun _ _ => rfl)) (ma_cons (mv 2) ma_nil)))) (ms_cons (ms_set (i := 6) sc_told_bidders.nd rfl (.inl rfl) (me_call wayP (okr_told_kinds T) (hr.mono (by decide)) (T.kg 44) (by rfl) (T.g 17) (takes_of rfl rfl rfl rfl) (ma_cons (me_ix (is_IX hr.units) (mv 5) me_int (fun _ _ => rfl)) (ma_cons (mv 1) ma_nil)))) (ms_cons (ms_expr (me_bm tyL_ok PySem.F.plainAttrs_list PySem.F.slot_list_append PySem.F.type_list_append mq_append (mv 2) (ma_cons (me_ix (is_IX hr.units) (mv 5) me_int (fun _ _ => rfl)) ma_nil))) (ms_cons (ms_expr (me_bm tyL_ok PySem.F.plainAttrs_list PySem.F.slot_list_append PySem.F.type_list_append mq_append (mv 3) (ma_cons (me_ix (is_IX hr.units) (mv 6) me_int (fun _ _ => rfl)) ma_nil))) (ms_one (ms_expr (me_bm tyL_ok PySem.F.plainAttrs_list PySem.F.slot_list_append PySem.F.type_list_append mq_append (mv 4) (ma_cons (me_ix (is_IX hr.units) (mv 6) me_int (fun _ _ => rfl)) ma_nil)))))))))) (ms_one (ms_ret (me_tup (ma_cons (mv 2) (ma_cons (mv 3) (ma_cons (mv 4) ma_nil))))))))
theorem okr_told_bidders (T : TX K mg) : FnR P w K mg base (L2.CX P w) 10 (ga K "told_bidders") (spM ⟨P, w, K⟩ (m_told_bidders cs)) := (okd_told_bidders T).r (fun _ _ _ _ _ _ us hl => match us, hl with | [_, _], _ => rfl)
theorem okd_every_day (T : TX K mg) : FnD P w K mg base 1 (ga K "every_day") ["kinds"] (spM ⟨P, w, K⟩ (m_every_day cs)) d_every_day.name d_every_day.qual d_every_day.params d_every_day.body d_every_day.scope :=
  def_of (T.d 46) sc_every_day rfl rfl fun cdv A outer s H E hr => ms_cons (ms_set (i := 1) sc_every_day.nd rfl (.inl rfl) (me_lst (ma_cons (me_tup ma_nil) ma_nil))) (ms_cons (ms_for (us := [2]) (passes_of rfl) rfl (mi_seq (mv 0)) (mg_name (i := 2) sc_every_day.nd rfl (.inr rfl)) (ms_one (ms_setLc2 (i := 1) (own := [("day", 3), ("kind", 4)]) false [4] (by rfl) sc_every_day.nd rfl rfl (sw_true rfl rfl rfl (by decide +kernel)) (mi_seq (mv 1)) (blkOk_by (own := [("day", 3), ("kind", 4)]) (N := ["kinds", "found", "row", "day", "kind"]) (sc := defScope s_every_day) (by decide +kernel)) (by decide) (fun _ _ _ _ _ => (mg_name (i := 3) sc_every_day.nd rfl (by first | exact .inl rfl | exact .inr rfl))) (fun _ _ _ _ _ => mts_nil) (fun _ _ _ _ _ => (mi_seq (me_lst (ma_star (mv 2) (ma_cons me_non ma_nil))))) (fun _ _ _ _ _ => (mg_name (i := 4) sc_every_day.nd rfl (by first | exact .inl rfl | exact .inr rfl))) (fun _ _ _ _ _ => mts_nil) (fun _ _ _ _ _ => (me_tup (ma_star (mv 3) (ma_cons (mv 4) ma_nil))))))) (ms_one (ms_ret (mv 1))))
theorem okr_every_day (T : TX K mg) : FnR P w K mg base (L2.CX P w) 1 (ga K "every_day") (spM ⟨P, w, K⟩ (m_every_day cs)) := (okd_every_day T).r (fun _ _ _ _ _ _ us hl => match us, hl with | [_], _ => rfl)
theorem okd_pairs_of (T : TX K mg) : FnD P w K mg base 1 (ga K "pairs_of") ["names", "day"] (spM ⟨P, w, K⟩ (m_pairs_of cs)) d_pairs_of.name d_pairs_of.qual d_pairs_of.params d_pairs_of.body d_pairs_of.scope :=
  def_of (T.d 47) sc_pairs_of rfl rfl fun cdv A outer s H E hr => ms_one (ms_ret (me_lc (own := [("name", 2), ("kind", 3)]) false (by rfl) sc_pairs_of.nd (mi_zip2 (by rfl) (T.f 120) (ma_cons (mv 0) (ma_cons (mv 1) ma_nil))) (blkOk_by (own := [("name", 2), ("kind", 3)]) (N := ["names", "day", "name", "kind"]) (sc := defScope s_pairs_of) (by decide +kernel)) (fun _ _ _ _ _ => (mg_tup rfl (mgs_cons (mg_name (i := 2) sc_pairs_of.nd rfl (by first | exact .inl rfl | exact .inr rfl)) (mgs_cons (mg_name (i := 3) sc_pairs_of.nd rfl (by first | exact .inl rfl | exact .inr rfl)) mgs_nil)))) (fun _ _ _ _ _ => mts_one (mt_cmp os_notN (mv 3) me_non (nomark _))) (fun _ _ _ _ _ => (me_tup (ma_cons (mv 2) (ma_cons (mv 3) ma_nil))))))
theorem okr_pairs_of (T : TX K mg) : FnR P w K mg base (L2.CX P w) 1 (ga K "pairs_of") (spM ⟨P, w, K⟩ (m_pairs_of cs)) := (okd_pairs_of T).r (fun _ _ _ _ _ _ us hl => match us, hl with | [_, _], _ => rfl)
theorem okd_product_of (T : TX K mg) : FnD P w K mg base 9 (ga K "product_of") ["day", "kinds", "chances"] (spM ⟨P, w, K⟩ (m_product_of cs)) d_product_of.name d_product_of.qual d_product_of.params d_product_of.body d_product_of.scope :=
  def_of (T.d 48) sc_product_of rfl rfl fun cdv A outer s H E hr => ms_cons (ms_set (i := 3) sc_product_of.nd rfl (.inl rfl) (me_new wayNR1 (mkB_ok (xe T 4)) (ok_Ratio1 T) (hr.mono (by decide)) (by rfl) (T.g 97) (takes_of rfl rfl rfl rfl) (ma_cons me_int ma_nil))) (ms_cons (ms_for (us := [4, 5, 6]) (passes_of rfl) rfl (mi_zip3 (by rfl) (T.f 120) (ma_cons (mv 0) (ma_cons (mv 1) (ma_cons (mv 2) ma_nil)))) (mg_tup rfl (mgs_cons (mg_name (i := 4) sc_product_of.nd rfl (.inl rfl)) (mgs_cons (mg_name (i := 5) sc_product_of.nd rfl (.inl rfl)) (mgs_cons (mg_name (i := 6) sc_product_of.nd rfl (.inl rfl)) mgs_nil)))) (ms_one (ms_set (i := 3) sc_product_of.nd rfl (.inl rfl) (me_op (os_binR (nm := "mul") rfl (ownOpB_ok (xe T 57)) (okr_Ratio___mul__ T) (hr.mono (by decide))) (mv 3) (me_if (mt_cmp os_isN (mv 4) me_non (nomark _)) (me_op (os_binR (nm := "sub") rfl (ownOpB_ok (xe T 55)) (okr_Ratio___sub__ T) (hr.mono (by decide))) (me_new wayNR1 (mkB_ok (xe T 4)) (ok_Ratio1 T) (hr.mono (by decide)) (by rfl) (T.g 97) (takes_of rfl rfl rfl rfl) (ma_cons me_int ma_nil)) (me_call wayP (okr_total T) (hr.mono (by decide)) (T.kg 37) (by rfl) (T.g 10) (takes_of rfl rfl rfl rfl) (ma_cons (mv 6) ma_nil))) (me_ix (is_IX hr.units) (mv 6) (me_bm tyL_ok PySem.F.plainAttrs_list PySem.F.slot_list_index PySem.F.type_list_index mq_index (mv 5) (ma_cons (mv 4) ma_nil)) (fun _ _ => rfl))))))) (ms_one (ms_ret (mv 3))))
theorem okr_product_of (T : TX K mg) : FnR P w K mg base (L2.CX P w) 9 (ga K "product_of") (spM ⟨P, w, K⟩ (m_product_of cs)) := (okd_product_of T).r (fun _ _ _ _ _ _ us hl => match us, hl with | [_, _, _], _ => rfl)
theorem okd_House_pairs (T : TX K mg) : FnD P w K mg base 1 (ma K (ga K "House") "pairs") ["self"] (spM ⟨P, w, K⟩ (m_House_pairs cs)) d_House_pairs.name d_House_pairs.qual d_House_pairs.params d_House_pairs.body d_House_pairs.scope :=
  def_of (T.d 57) sc_House_pairs rfl rfl fun cdv A outer s H E hr => ms_one (ms_ret (me_lc2 (own := [("name", 1), ("row", 2), ("kind", 3)]) false [3] (by rfl) sc_House_pairs.nd (mi_zip2 (by rfl) (T.f 120) (ma_cons (me_fld (mv 0) ((kf T).cl "House" (by decide +kernel)) (eqO_ok (xe T 98))) (ma_cons (me_fld (mv 0) ((kf T).cl "House" (by decide +kernel)) (eqO_ok (xe T 99))) ma_nil))) (blkOk_by (own := [("name", 1), ("row", 2), ("kind", 3)]) (N := ["self", "name", "row", "kind"]) (sc := defScope s_House_pairs) (by decide +kernel)) (by decide) (fun _ _ _ _ _ => (mg_tup rfl (mgs_cons (mg_name (i := 1) sc_House_pairs.nd rfl (by first | exact .inl rfl | exact .inr rfl)) (mgs_cons (mg_name (i := 2) sc_House_pairs.nd rfl (by first | exact .inl rfl | exact .inr rfl)) mgs_nil)))) (fun _ _ _ _ _ => mts_nil) (fun _ _ _ _ _ => (mi_seq (mv 2))) (fun _ _ _ _ _ => (mg_name (i := 3) sc_House_pairs.nd rfl (by first | exact .inl rfl | exact .inr rfl))) (fun _ _ _ _ _ => mts_nil) (fun _ _ _ _ _ => (me_tup (ma_cons (mv 1) (ma_cons (mv 3) ma_nil))))))
theorem okr_House_pairs (T : TX K mg) : FnR P w K mg base (L2.CX P w) 1 (ma K (ga K "House") "pairs") (spM ⟨P, w, K⟩ (m_House_pairs cs)) := (okd_House_pairs T).r (fun _ _ _ _ _ _ us hl => match us, hl with | [_], _ => rfl)
theorem okd_House_has_products (T : TX K mg) : FnD P w K mg base 10 (ma K (ga K "House") "has_products") ["self"] (spM ⟨P, w, K⟩ (m_House_has_products cs)) d_House_has_products.name d_House_has_products.qual d_House_has_products.params d_House_has_products.body d_House_has_products.scope :=
  def_of (T.d 51) sc_House_has_products rfl rfl fun cdv A outer s H E hr => ms_cons (ms_set (i := 1) sc_House_has_products.nd rfl (.inr rfl) (me_lstO ma_nil)) (ms_cons (ms_for (us := [2, 3]) (passes_of rfl) rfl (mi_zip2 (by rfl) (T.f 120) (ma_cons (me_fld (mv 0) ((kf T).cl "House" (by decide +kernel)) (eqO_ok (xe T 98))) (ma_cons (me_fld (mv 0) ((kf T).cl "House" (by decide +kernel)) (eqO_ok (xe T 99))) ma_nil))) (mg_tup rfl (mgs_cons (mg_name (i := 2) sc_House_has_products.nd rfl (.inr rfl)) (mgs_cons (mg_name (i := 3) sc_House_has_products.nd rfl (.inl rfl)) mgs_nil))) (ms_one (ms_expr (me_bm tyL_ok PySem.F.plainAttrs_list PySem.F.slot_list_append PySem.F.type_list_append mq_append (mv 1) (ma_cons (me_lc (own := [("kind", 4)]) false (by rfl) sc_House_has_products.nd (mi_seq (mv 3)) (blkOk_by (own := [("kind", 4)]) (N := ["self", "chances", "name", "row", "kind", "day", "chance"]) (sc := defScope s_House_has_products) (by decide +kernel)) (fun _ _ _ _ _ => (mg_name (i := 4) sc_House_has_products.nd rfl (by first | exact .inl rfl | exact .inr rfl))) (fun _ _ _ _ _ => mts_nil) (fun _ _ _ _ _ => (me_ix (is_IX hr.units) (me_fld (mv 0) ((kf T).cl "House" (by decide +kernel)) (eqO_ok (xe T 102))) (me_tup (ma_cons (mv 2) (ma_cons (mv 4) ma_nil))) (fun _ _ => rfl)))) ma_nil))))) (ms_one (ms_ret (me_callB (cs_all rfl) (by rfl) (T.f 102) (by decide +kernel) (ma_cons (me_lc (own := [("day", 5), ("chance", 6)]) false (by rfl) sc_House_has_products.nd (mi_items (me_fld (mv 0) ((kf T).cl "House" (by decide +kernel)) (eqO_ok (xe T 100)))) (blkOk_by (own := [("day", 5), ("chance", 6)]) (N := ["self", "chances", "name", "row", "kind", "day", "chance"]) (sc := defScope s_House_has_products) (by decide +kernel)) (fun _ _ _ _ _ => (mg_tup rfl (mgs_cons (mg_name (i := 5) sc_House_has_products.nd rfl (by first | exact .inl rfl | exact .inr rfl)) (mgs_cons (mg_name (i := 6) sc_House_has_products.nd rfl (by first | exact .inl rfl | exact .inr rfl)) mgs_nil)))) (fun _ _ _ _ _ => mts_nil) (fun _ _ _ _ _ => (me_cmp (os_eqR (kf T) (methB_ok (xe T 60)) (okr_Ratio___eq__ T) (hr.mono (by decide))) (me_call wayT (okr_product_of T) (hr.mono (by decide)) (T.kg 48) (by rfl) (T.g 21) takes_F (ma_cons (mv 5) (ma_cons (me_fld (mv 0) ((kf T).cl "House" (by decide +kernel)) (eqO_ok (xe T 99))) (ma_cons (mv 1) ma_nil)))) (mv 6) (nomark _)))) ma_nil)))))
theorem okr_House_has_products (T : TX K mg) : FnR P w K mg base (L2.CX P w) 10 (ma K (ga K "House") "has_products") (spM ⟨P, w, K⟩ (m_House_has_products cs)) := (okd_House_has_products T).r (fun _ _ _ _ _ _ us hl => match us, hl with | [_], _ => rfl)
theorem okd_House_bidder_lines (T : TX K mg) : FnD P w K mg base 2 (ma K (ga K "House") "bidder_lines") ["self"] (spM ⟨P, w, K⟩ (m_House_bidder_lines cs)) d_House_bidder_lines.name d_House_bidder_lines.qual d_House_bidder_lines.params d_House_bidder_lines.body d_House_bidder_lines.scope :=
  def_of (T.d 52) sc_House_bidder_lines rfl rfl fun cdv A outer s H E hr => ms_cons (ms_set (i := 1) sc_House_bidder_lines.nd rfl (.inl rfl) (me_lstO ma_nil)) (ms_cons (ms_for (us := [2, 3]) (passes_of rfl) rfl (mi_zip2 (by rfl) (T.f 120) (ma_cons (me_fld (mv 0) ((kf T).cl "House" (by decide +kernel)) (eqO_ok (xe T 98))) (ma_cons (me_fld (mv 0) ((kf T).cl "House" (by decide +kernel)) (eqO_ok (xe T 99))) ma_nil))) (mg_tup rfl (mgs_cons (mg_name (i := 2) sc_House_bidder_lines.nd rfl (.inr rfl)) (mgs_cons (mg_name (i := 3) sc_House_bidder_lines.nd rfl (.inl rfl)) mgs_nil))) (ms_cons (ms_setLc (i := 4) (own := [("kind", 5)]) false (by rfl) sc_House_bidder_lines.nd rfl rfl (sw_true rfl rfl rfl (by decide +kernel)) (mi_seq (mv 3)) (blkOk_by (own := [("kind", 5)]) (N := ["self", "lines", "name", "row", "words", "kind"]) (sc := defScope s_House_bidder_lines) (by decide +kernel)) (fun _ _ _ _ _ => (mg_name (i := 5) sc_House_bidder_lines.nd rfl (by first | exact .inl rfl | exact .inr rfl))) (fun _ _ _ _ _ => mts_nil) (fun _ _ _ _ _ => (me_if (mt_val (me_fld (mv 0) ((kf T).cl "House" (by decide +kernel)) (eqO_ok (xe T 103)))) (me_joined (.cons (me_fmt (mv 5)) (.cons me_str (.cons (me_fmt (me_methS0 wayP (me_ix (is_IX hr.units) (me_fld (mv 0) ((kf T).cl "House" (by decide +kernel)) (eqO_ok (xe T 102))) (me_tup (ma_cons (mv 2) (ma_cons (mv 5) ma_nil))) (fun _ _ => rfl)) (kf T).rc (methB_ok (xe T 62)) (okr_Ratio_text T) (hr.mono (by decide)) takes_F)) EJ.nil)))) (mv 5)))) (ms_one (ms_expr (me_bm tyL_ok PySem.F.plainAttrs_list PySem.F.slot_list_append PySem.F.type_list_append mq_append (mv 1) (ma_cons (me_joined (.cons (me_fmt (mv 2)) (.cons me_str (.cons (me_fmt (me_bm tyS_ok PySem.F.plainAttrs_str PySem.F.slot_str_join PySem.F.type_str_join mq_join me_str (ma_cons (mv 4) ma_nil))) EJ.nil)))) ma_nil)))))) (ms_one (ms_ret (mv 1))))
theorem okr_House_bidder_lines (T : TX K mg) : FnR P w K mg base (L2.CX P w) 2 (ma K (ga K "House") "bidder_lines") (spM ⟨P, w, K⟩ (m_House_bidder_lines cs)) := (okd_House_bidder_lines T).r (fun _ _ _ _ _ _ us hl => match us, hl with | [_], _ => rfl)
theorem okd_day_line (T : TX K mg) : FnD P w K mg base 2 (ga K "day_line") ["day", "chance"] (spM ⟨P, w, K⟩ (m_day_line cs)) d_day_line.name d_day_line.qual d_day_line.params d_day_line.body d_day_line.scope :=
  def_of (T.d 67) sc_day_line rfl rfl fun cdv A outer s H E hr => ms_one (ms_ret (me_bm tyS_ok PySem.F.plainAttrs_str PySem.F.slot_str_join PySem.F.type_str_join mq_join me_str (ma_cons (me_lst (ma_cons me_str (ma_star (me_lc (own := [("kind", 2)]) false (by rfl) sc_day_line.nd (mi_seq (mv 0)) (blkOk_by (own := [("kind", 2)]) (N := ["day", "chance", "kind"]) (sc := defScope s_day_line) (by decide +kernel)) (fun _ _ _ _ _ => (mg_name (i := 2) sc_day_line.nd rfl (by first | exact .inl rfl | exact .inr rfl))) (fun _ _ _ _ _ => mts_nil) (fun _ _ _ _ _ => (me_if (mt_cmp os_isN (mv 2) me_non (nomark _)) me_str (mv 2)))) (ma_cons (me_methS0 wayP (mv 1) (kf T).rc (methB_ok (xe T 62)) (okr_Ratio_text T) (hr.mono (by decide)) (takes_of rfl rfl rfl rfl)) ma_nil)))) ma_nil)))
theorem okr_day_line (T : TX K mg) : FnR P w K mg base (L2.CX P w) 2 (ga K "day_line") (spM ⟨P, w, K⟩ (m_day_line cs)) := (okd_day_line T).r (fun _ _ _ _ _ _ us hl => match us, hl with | [_, _], _ => rfl)
theorem okd_House_day_lines (T : TX K mg) : FnD P w K mg base 3 (ma K (ga K "House") "day_lines") ["self"] (spM ⟨P, w, K⟩ (m_House_day_lines cs)) d_House_day_lines.name d_House_day_lines.qual d_House_day_lines.params d_House_day_lines.body d_House_day_lines.scope :=
  def_of (T.d 53) sc_House_day_lines rfl rfl fun cdv A outer s H E hr => ms_one (ms_ret (me_if (mt_val (me_fld (mv 0) ((kf T).cl "House" (by decide +kernel)) (eqO_ok (xe T 103)))) (me_lst ma_nil) (me_lc (own := [("day", 1), ("chance", 2)]) false (by rfl) sc_House_day_lines.nd (mi_seq (me_fld (mv 0) ((kf T).cl "House" (by decide +kernel)) (eqO_ok (xe T 101)))) (blkOk_by (own := [("day", 1), ("chance", 2)]) (N := ["self", "day", "chance"]) (sc := defScope s_House_day_lines) (by decide +kernel)) (fun _ _ _ _ _ => (mg_tup rfl (mgs_cons (mg_name (i := 1) sc_House_day_lines.nd rfl (by first | exact .inl rfl | exact .inr rfl)) (mgs_cons (mg_name (i := 2) sc_House_day_lines.nd rfl (by first | exact .inl rfl | exact .inr rfl)) mgs_nil)))) (fun _ _ _ _ _ => mts_nil) (fun _ _ _ _ _ => (me_call wayP (okr_day_line T) (hr.mono (by decide)) (T.kg 67) (by rfl) (T.g 22) takes_F (ma_cons (mv 1) (ma_cons (mv 2) ma_nil)))))))
theorem okr_House_day_lines (T : TX K mg) : FnR P w K mg base (L2.CX P w) 3 (ma K (ga K "House") "day_lines") (spM ⟨P, w, K⟩ (m_House_day_lines cs)) := (okd_House_day_lines T).r (fun _ _ _ _ _ _ us hl => match us, hl with | [_], _ => rfl)
theorem okd_House_keep (T : TX K mg) : FnD P w K mg base 11 (ma K (ga K "House") "keep") ["self", "table"] (spM ⟨P, w, K⟩ (m_House_keep cs)) d_House_keep.name d_House_keep.qual d_House_keep.params d_House_keep.body d_House_keep.scope :=
  def_of (T.d 50) sc_House_keep rfl rfl fun cdv A outer s H E hr => ms_cons (ms_fld (mv 0) (mv 1) ((kf T).cl "House" (by decide +kernel)) (eqO_ok (xe T 100))) (ms_cons (ms_fld (mv 0) (me_lc (own := [("day", 2), ("chance", 3)]) false (by rfl) sc_House_keep.nd (mi_items (mv 1)) (blkOk_by (own := [("day", 2), ("chance", 3)]) (N := ["self", "table", "day", "chance", "pair"]) (sc := defScope s_House_keep) (by decide +kernel)) (fun _ _ _ _ _ => (mg_tup rfl (mgs_cons (mg_name (i := 2) sc_House_keep.nd rfl (by first | exact .inl rfl | exact .inr rfl)) (mgs_cons (mg_name (i := 3) sc_House_keep.nd rfl (by first | exact .inl rfl | exact .inr rfl)) mgs_nil)))) (fun _ _ _ _ _ => mts_one (mt_val (me_methS wayP (me_new wayNR1 (mkB_ok (xe T 4)) (ok_Ratio1 T) (hr.mono (by decide)) (by rfl) (T.g 97) takes_F (ma_cons me_int ma_nil)) (kf T).rc (methB_ok (xe T 61)) (okr_Ratio_below T) (hr.mono (by decide)) takes_F (ma_cons (mv 3) ma_nil)))) (fun _ _ _ _ _ => (me_tup (ma_cons (mv 2) (ma_cons (mv 3) ma_nil))))) ((kf T).cl "House" (by decide +kernel)) (eqO_ok (xe T 101))) (ms_cons (ms_fld (mv 0) (me_dc (own := [("pair", 4)]) hr.units (by rfl) sc_House_keep.nd (mi_seq (me_meth0 wayT (mv 0) ((kf T).cl "House" (by decide +kernel)) (methB_ok (xe T 71)) (okr_House_pairs T) (hr.mono (by decide)) (takes_of rfl rfl rfl rfl))) (blkOk_by (own := [("pair", 4)]) (N := ["self", "table", "day", "chance", "pair"]) (sc := defScope s_House_keep) (by decide +kernel)) (fun _ _ _ _ _ => (mg_name (i := 4) sc_House_keep.nd rfl (by first | exact .inl rfl | exact .inr rfl))) (fun _ _ _ _ _ => mts_nil) (fun _ _ _ _ _ => (mv 4)) (fun _ _ _ _ _ => (me_new wayNR1 (mkB_ok (xe T 4)) (ok_Ratio1 T) (hr.mono (by decide)) (by rfl) (T.g 97) takes_F (ma_cons me_int ma_nil)))) ((kf T).cl "House" (by decide +kernel)) (eqO_ok (xe T 102))) (ms_cons (ms_for (us := [2, 3]) (passes_of rfl) rfl (mi_seq (me_fld (mv 0) ((kf T).cl "House" (by decide +kernel)) (eqO_ok (xe T 101)))) (mg_tup rfl (mgs_cons (mg_name (i := 2) sc_House_keep.nd rfl (.inl rfl)) (mgs_cons (mg_name (i := 3) sc_House_keep.nd rfl (.inl rfl)) mgs_nil))) (ms_one (ms_for (us := [4]) (passes_of rfl) rfl (mi_seq (me_call wayP (okr_pairs_of T) (hr.mono (by decide)) (T.kg 47) (by rfl) (T.g 20) (takes_of rfl rfl rfl rfl) (ma_cons (me_fld (mv 0) ((kf T).cl "House" (by decide +kernel)) (eqO_ok (xe T 98))) (ma_cons (mv 2) ma_nil)))) (mg_name (i := 4) sc_House_keep.nd rfl (.inl rfl)) (ms_one (ms_asg (us := []) (me_op (os_binR (nm := "add") rfl (ownOpB_ok (xe T 53)) (okr_Ratio___add__ T) (hr.mono (by decide))) (me_ix (is_IX hr.units) (me_fld (mv 0) ((kf T).cl "House" (by decide +kernel)) (eqO_ok (xe T 102))) (mv 4) (fun _ _ => rfl)) (mv 3)) (mg_sub (Wx := wF) (me_fld (mv 0) ((kf T).cl "House" (by decide +kernel)) (eqO_ok (xe T 102))) (mv 4) (sq_set hr.units))))))) (ms_cons (ms_frz (ms_fld (mv 0) (me_meth0 wayT (mv 0) ((kf T).cl "House" (by decide +kernel)) (methB_ok (xe T 65)) (okr_House_has_products T) (hr.mono (by decide)) (takes_of rfl rfl rfl rfl)) ((kf T).cl "House" (by decide +kernel)) (eqO_ok (xe T 103)))) (ms_one (ms_fld (mv 0) (me_bm tyS_ok PySem.F.plainAttrs_str PySem.F.slot_str_join PySem.F.type_str_join mq_join me_str (ma_cons (me_lst (ma_star (me_meth0 wayT (mv 0) ((kf T).cl "House" (by decide +kernel)) (methB_ok (xe T 66)) (okr_House_bidder_lines T) (hr.mono (by decide)) (takes_of rfl rfl rfl rfl)) (ma_star (me_meth0 wayT (mv 0) ((kf T).cl "House" (by decide +kernel)) (methB_ok (xe T 67)) (okr_House_day_lines T) (hr.mono (by decide)) (takes_of rfl rfl rfl rfl)) ma_nil))) ma_nil)) ((kf T).cl "House" (by decide +kernel)) (eqO_ok (xe T 104))))))))
theorem okr_House_keep (T : TX K mg) : FnR P w K mg base (L2.CX P w) 11 (ma K (ga K "House") "keep") (spM ⟨P, w, K⟩ (m_House_keep cs)) := (okd_House_keep T).r (fun _ _ _ _ _ _ us hl => match us, hl with | [_, _], _ => rfl)
theorem okd_House___init__ (T : TX K mg) : FnD P w K mg base 12 (ma K (ga K "House") "__init__") ["self", "bidders"] (spM ⟨P, w, K⟩ (m_House___init__ cs)) d_House___init__.name d_House___init__.qual d_House___init__.params d_House___init__.body d_House___init__.scope :=
  def_of (T.d 49) sc_House___init__ rfl rfl fun cdv A outer s H E hr => ms_cons (ms_asg (us := [2, 3, 4]) (me_call wayP (okr_told_bidders T) (hr.mono (by decide)) (T.kg 45) (by rfl) (T.g 18) (takes_of rfl rfl rfl rfl) (ma_cons (mv 1) (ma_cons me_bl ma_nil))) (mg_tup rfl (mgs_cons (mg_name (i := 2) sc_House___init__.nd rfl (.inl rfl)) (mgs_cons (mg_name (i := 3) sc_House___init__.nd rfl (.inr rfl)) (mgs_cons (mg_name (i := 4) sc_House___init__.nd rfl (.inr rfl)) mgs_nil))))) (ms_cons (ms_fld (mv 0) (mv 2) ((kf T).cl "House" (by decide +kernel)) (eqO_ok (xe T 98))) (ms_cons (ms_fld (mv 0) (mv 3) ((kf T).cl "House" (by decide +kernel)) (eqO_ok (xe T 99))) (ms_one (ms_expr (me_meth wayO (mv 0) ((kf T).cl "House" (by decide +kernel)) (methB_ok (xe T 64)) (okr_House_keep T) (hr.mono (by decide)) (takes_of rfl rfl rfl rfl) (ma_cons (me_fz (me_dc (own := [("day", 5)]) hr.units (by rfl) sc_House___init__.nd (mi_seq (me_call wayP (okr_every_day T) (hr.mono (by decide)) (T.kg 46) (by rfl) (T.g 19) (takes_of rfl rfl rfl rfl) (ma_cons (mv 3) ma_nil))) (blkOk_by (own := [("day", 5)]) (N := ["self", "bidders", "names", "kinds", "chances", "day"]) (sc := defScope s_House___init__) (by decide +kernel)) (fun _ _ _ _ _ => (mg_name (i := 5) sc_House___init__.nd rfl (by first | exact .inl rfl | exact .inr rfl))) (fun _ _ _ _ _ => mts_nil) (fun _ _ _ _ _ => (mv 5)) (fun _ _ _ _ _ => (me_call wayP (okr_product_of T) (hr.mono (by decide)) (T.kg 48) (by rfl) (T.g 21) takes_F (ma_cons (mv 5) (ma_cons (mv 3) (ma_cons (mv 4) ma_nil))))))) ma_nil))))))
theorem okr_House___init__ (T : TX K mg) : FnR P w K mg base (L2.CX P w) 12 (ma K (ga K "House") "__init__") (spM ⟨P, w, K⟩ (m_House___init__ cs)) := (okd_House___init__ T).r (fun _ _ _ _ _ _ us hl => match us, hl with | [_, _], _ => rfl)
theorem okd_is_day (T : TX K mg) : FnD P w K mg base 1 (ga K "is_day") ["house", "value"] (spM ⟨P, w, K⟩ (m_is_day cs)) d_is_day.name d_is_day.qual d_is_day.params d_is_day.body d_is_day.scope :=
  def_of (T.d 68) sc_is_day rfl rfl fun cdv A outer s H E hr => ms_cons (ms_if (PW.pt (mw_or (mt_not (mt_val (me_callB (cs_isi (kf T)) (by rfl) (T.f 109) (by decide +kernel) (ma_cons (mv 1) (ma_cons (me_ty (pe_bltn (v := .ty "tuple") (u := .type "tuple") (by rfl) (T.f 119) (by decide +kernel) rfl)) ma_nil))))) (mw_or1 (mt_cmp (os_ne hr.units) (me_callB cs_LEN (by rfl) (T.f 110) (by decide +kernel) (ma_cons (mv 1) ma_nil)) (me_callB cs_LEN (by rfl) (T.f 110) (by decide +kernel) (ma_cons (me_fld (mv 0) ((kf T).cl "House" (by decide +kernel)) (eqO_ok (xe T 98))) ma_nil)) (nomark _))))) (ms_one (ms_ret me_bl)) (ms_nil)) (ms_cons (ms_for (us := [2, 3]) (passes_of rfl) rfl (mi_zip2 (by rfl) (T.f 120) (ma_cons (mv 1) (ma_cons (me_fld (mv 0) ((kf T).cl "House" (by decide +kernel)) (eqO_ok (xe T 99))) ma_nil))) (mg_tup rfl (mgs_cons (mg_name (i := 2) sc_is_day.nd rfl (.inl rfl)) (mgs_cons (mg_name (i := 3) sc_is_day.nd rfl (.inl rfl)) mgs_nil))) (ms_one (ms_if (PW.pt (mw_and (mt_cmp os_notN (mv 2) me_non (nomark _)) (mw_and1 (PW.pt (mw_or (mt_not (mt_val (me_callB (cs_isi (kf T)) (by rfl) (T.f 109) (by decide +kernel) (ma_cons (mv 2) (ma_cons (me_ty (pe_bltn (v := .ty "str") (u := .type "str") (by rfl) (T.f 117) (by decide +kernel) rfl)) ma_nil))))) (mw_or1 (mt_cmp (os_NI hr.units) (mv 2) (mv 3) (by rfl)))))))) (ms_one (ms_ret me_bl)) (ms_nil)))) (ms_one (ms_ret me_bl)))
theorem okr_is_day (T : TX K mg) : FnR P w K mg base (L2.CX P w) 1 (ga K "is_day") (spM ⟨P, w, K⟩ (m_is_day cs)) := (okd_is_day T).r (fun _ _ _ _ _ _ us hl => match us, hl with | [_, _], _ => rfl)
theorem okd_need_day (T : TX K mg) : FnD P w K mg base 3 (ga K "need_day") ["house", "value"] (spM ⟨P, w, K⟩ (m_need_day cs)) d_need_day.name d_need_day.qual d_need_day.params d_need_day.body d_need_day.scope :=
  def_of (T.d 69) sc_need_day rfl rfl fun cdv A outer s H E hr => ms_one (ms_if (mt_not (mt_val (me_call wayP (okr_is_day T) (hr.mono (by decide)) (T.kg 68) (by rfl) (T.g 23) (takes_of rfl rfl rfl rfl) (ma_cons (mv 0) (ma_cons (mv 1) ma_nil))))) (ms_one (ms_raise1 rfl (takes_of rfl rfl rfl rfl) (xo_InvalidDay T) (xi_InvalidDay T) (ok_InvalidDay___init__ T) (hr.mono (by decide)) passL (by rfl) (T.g 87) (ma_cons (mv 1) ma_nil))) (ms_nil))
theorem okr_need_day (T : TX K mg) : FnR P w K mg base (L2.CX P w) 3 (ga K "need_day") (spM ⟨P, w, K⟩ (m_need_day cs)) := (okd_need_day T).r (fun _ _ _ _ _ _ us hl => match us, hl with | [_, _], _ => rfl)
theorem okd_told_days (T : TX K mg) : FnD P w K mg base 9 (ga K "told_days") ["house", "days"] (spM ⟨P, w, K⟩ (m_told_days cs)) d_told_days.name d_told_days.qual d_told_days.params d_told_days.body d_told_days.scope :=
  def_of (T.d 73) sc_told_days rfl rfl fun cdv A outer s H E hr => ms_cons (ms_if (PW.pt (mw_or (mt_not (mt_val (me_call wayP (okr_is_list T) (hr.mono (by decide)) (T.kg 17) (by rfl) (T.g 2) (takes_of rfl rfl rfl rfl) (ma_cons (mv 1) ma_nil)))) (mw_or1 (mt_not (mt_chain os_le os_le me_int (me_callB cs_LEN (by rfl) (T.f 110) (by decide +kernel) (ma_cons (mv 1) ma_nil)) (me_cint (T.cint 125))))))) (ms_one (ms_raise1 rfl (takes_of rfl rfl rfl rfl) (xo_InvalidDays T) (xi_InvalidDays T) (ok_InvalidDays___init__ T) (hr.mono (by decide)) passL (by rfl) (T.g 88) (ma_cons (mv 1) ma_nil))) (ms_nil)) (ms_cons (ms_set (i := 2) sc_told_days.nd rfl (.inr rfl) me_dnew) (ms_cons (ms_for (us := [3]) (passes_of rfl) rfl (mi_seq (mv 1)) (mg_name (i := 3) sc_told_days.nd rfl (.inl rfl)) (ms_cons (ms_if (PW.pt (mw_or (mt_not (mt_val (me_callB (cs_isi (kf T)) (by rfl) (T.f 109) (by decide +kernel) (ma_cons (mv 3) (ma_cons (me_ty (pe_bltn (v := .ty "tuple") (u := .type "tuple") (by rfl) (T.f 119) (by decide +kernel) rfl)) ma_nil))))) (mw_or1 (mt_cmp (os_ne hr.units) (me_callB cs_LEN (by rfl) (T.f 110) (by decide +kernel) (ma_cons (mv 3) ma_nil)) me_int (nomark _))))) (ms_one (ms_raise1 rfl (takes_of rfl rfl rfl rfl) (xo_InvalidDays T) (xi_InvalidDays T) (ok_InvalidDays___init__ T) (hr.mono (by decide)) passL (by rfl) (T.g 88) (ma_cons (mv 3) ma_nil))) (ms_nil)) (ms_cons (ms_expr (me_call wayP (okr_need_day T) (hr.mono (by decide)) (T.kg 69) (by rfl) (T.g 24) (takes_of rfl rfl rfl rfl) (ma_cons (mv 0) (ma_cons (me_ix (is_IX hr.units) (mv 3) me_int (fun _ _ => rfl)) ma_nil)))) (ms_cons (ms_if (mt_cmp (os_IN hr.units) (me_ix (is_IX hr.units) (mv 3) me_int (fun _ _ => rfl)) (mv 2) (by rfl)) (ms_one (ms_raise1 rfl (takes_of rfl rfl rfl rfl) (xo_Duplicate T) (xi_Duplicate T) (ok_Duplicate___init__ T) (hr.mono (by decide)) passL (by rfl) (T.g 92) (ma_cons (me_ix (is_IX hr.units) (mv 3) me_int (fun _ _ => rfl)) ma_nil))) (ms_nil)) (ms_cons (ms_expr (me_call wayP (okr_need_chance T) (hr.mono (by decide)) (T.kg 40) (by rfl) (T.g 13) (takes_of rfl rfl rfl rfl) (ma_cons (me_ix (is_IX hr.units) (mv 3) me_int (fun _ _ => rfl)) ma_nil))) (ms_one (ms_asg (us := []) (me_call wayP (okr_as_ratio T) (hr.mono (by decide)) (T.kg 35) (by rfl) (T.g 8) (takes_of rfl rfl rfl rfl) (ma_cons (me_ix (is_IX hr.units) (mv 3) me_int (fun _ _ => rfl)) ma_nil)) (mg_sub (Wx := wF) (mv 2) (me_ix (is_IX hr.units) (mv 3) me_int (fun _ _ => rfl)) (sq_set hr.units))))))))) (ms_cons (ms_frz (ms_if (mt_cmp (os_neR (kf T) (eqO_ok (xe T 5)) (methB_ok (xe T 60)) (okr_Ratio___eq__ T) (hr.mono (by decide))) (me_call wayP (okr_total T) (hr.mono (by decide)) (T.kg 37) (by rfl) (T.g 10) (takes_of rfl rfl rfl rfl) (ma_cons (me_listVals rfl (by rfl) (T.f 111) (mv 2)) ma_nil)) me_int (nomark _)) (ms_one (ms_raise1 rfl (takes_of rfl rfl rfl rfl) (xo_InvalidChance T) (xi_InvalidChance T) (ok_InvalidChance___init__ T) (hr.mono (by decide)) passL (by rfl) (T.g 86) (ma_cons (me_call wayP (okr_total T) (hr.mono (by decide)) (T.kg 37) (by rfl) (T.g 10) (takes_of rfl rfl rfl rfl) (ma_cons (me_listVals rfl (by rfl) (T.f 111) (mv 2)) ma_nil)) ma_nil))) (ms_nil))) (ms_one (ms_frz (ms_ret (me_fz (me_dc (own := [("day", 4)]) hr.units (by rfl) sc_told_days.nd (mi_keys (me_fld (mv 0) ((kf T).cl "House" (by decide +kernel)) (eqO_ok (xe T 100)))) (blkOk_by (own := [("day", 4)]) (N := ["house", "days", "told", "item", "day"]) (sc := defScope s_told_days) (by decide +kernel)) (fun _ _ _ _ _ => (mg_name (i := 4) sc_told_days.nd rfl (by first | exact .inl rfl | exact .inr rfl))) (fun _ _ _ _ _ => mts_nil) (fun _ _ _ _ _ => (mv 4)) (fun _ _ _ _ _ => (me_bmD PySem.F.slot_dict_get PySem.F.type_dict_get (mq_getD hr.units) (mv 2) (ma_cons (mv 4) (ma_cons (me_new wayNR1 (mkB_ok (xe T 4)) (ok_Ratio1 T) (hr.mono (by decide)) (by rfl) (T.g 97) takes_F (ma_cons me_int ma_nil)) ma_nil))))))))))))
theorem okr_told_days (T : TX K mg) : FnR P w K mg base (L2.CX P w) 9 (ga K "told_days") (spM ⟨P, w, K⟩ (m_told_days cs)) := (okd_told_days T).r (fun _ _ _ _ _ _ us hl => match us, hl with | [_, _], _ => rfl)
theorem okd_House_tied (T : TX K mg) : FnD P w K mg base 14 (recFn K (ma K (ga K "House") "tied") "classmethod") ["cls", "bidders", "days"] (spM ⟨P, w, K⟩ (m_House_tied cs)) d_House_tied.name d_House_tied.qual d_House_tied.params d_House_tied.body d_House_tied.scope :=
  def_of (T.d 54) sc_House_tied rfl rfl fun cdv A outer s H E hr => ms_cons (ms_asg (us := [3, 4, 5]) (me_call wayP (okr_told_bidders T) (hr.mono (by decide)) (T.kg 45) (by rfl) (T.g 18) (takes_of rfl rfl rfl rfl) (ma_cons (mv 1) (ma_cons me_bl ma_nil))) (mg_tup rfl (mgs_cons (mg_name (i := 3) sc_House_tied.nd rfl (.inl rfl)) (mgs_cons (mg_name (i := 4) sc_House_tied.nd rfl (.inl rfl)) (mgs_cons (mg_name (i := 5) sc_House_tied.nd rfl (.inl rfl)) mgs_nil))))) (ms_cons (ms_set (i := 6) sc_House_tied.nd rfl (.inl rfl) (me_newV (cn := "House") wayNO (mkB_ok (xe T 63)) (okr_House___init__ T) (hr.mono (by decide)) (i := 0) rfl (by first | exact Or.inl rfl | exact Or.inr (Or.inl rfl) | exact Or.inr (Or.inr rfl)) (takes_of rfl rfl rfl rfl) (ma_cons (me_lc (own := [("name", 7), ("row", 8)]) false (by rfl) sc_House_tied.nd (mi_zip2 (by rfl) (T.f 120) (ma_cons (mv 3) (ma_cons (mv 4) ma_nil))) (blkOk_by (own := [("name", 7), ("row", 8)]) (N := ["cls", "bidders", "days", "names", "kinds", "chances", "found", "name", "row", "kind", "pair"]) (sc := defScope s_House_tied) (by decide +kernel)) (fun _ _ _ _ _ => (mg_tup rfl (mgs_cons (mg_name (i := 7) sc_House_tied.nd rfl (by first | exact .inl rfl | exact .inr rfl)) (mgs_cons (mg_name (i := 8) sc_House_tied.nd rfl (by first | exact .inl rfl | exact .inr rfl)) mgs_nil)))) (fun _ _ _ _ _ => mts_nil) (fun _ _ _ _ _ => (me_tup (ma_cons (mv 7) (ma_cons (me_lc (own := [("kind", 9)]) false (by rfl) sc_House_tied.nd (mi_seq (mv 8)) (blkOk_by (own := [("kind", 9)]) (by kernel_rfl)) (fun _ _ _ _ _ => (mg_name (i := 9) sc_House_tied.nd rfl (by first | exact .inl rfl | exact .inr rfl))) (fun _ _ _ _ _ => mts_nil) (fun _ _ _ _ _ => (me_tup (ma_cons (mv 9) (ma_cons (me_new wayNR (mkB_ok (xe T 4)) (ok_Ratio2 T) (hr.mono (by decide)) (by rfl) (T.g 97) takes_F (ma_cons me_int (ma_cons (me_cint (T.cint 124)) ma_nil))) ma_nil))))) ma_nil))))) ma_nil))) (ms_cons (ms_expr (me_meth wayO (mv 6) ((kf T).cl "House" (by decide +kernel)) (methB_ok (xe T 64)) (okr_House_keep T) (hr.mono (by decide)) (takes_of rfl rfl rfl rfl) (ma_cons (me_call wayT (okr_told_days T) (hr.mono (by decide)) (T.kg 73) (by rfl) (T.g 28) (takes_of rfl rfl rfl rfl) (ma_cons (mv 6) (ma_cons (mv 2) ma_nil))) ma_nil))) (ms_cons (ms_for (us := [10]) (passes_of rfl) rfl (mi_seq (me_meth0 wayT (mv 6) ((kf T).cl "House" (by decide +kernel)) (methB_ok (xe T 71)) (okr_House_pairs T) (hr.mono (by decide)) (takes_of rfl rfl rfl rfl))) (mg_name (i := 10) sc_House_tied.nd rfl (.inl rfl)) (ms_one (ms_if (mt_cmp (os_eqR (kf T) (methB_ok (xe T 60)) (okr_Ratio___eq__ T) (hr.mono (by decide))) (me_ix (is_IX hr.units) (me_fld (mv 6) ((kf T).cl "House" (by decide +kernel)) (eqO_ok (xe T 102))) (mv 10) (fun _ _ => rfl)) me_int (nomark _)) (ms_one (ms_raise1 rfl (takes_of rfl rfl rfl rfl) (xo_UnknownPair T) (xi_UnknownPair T) (ok_UnknownPair___init__ T) (hr.mono (by decide)) passL (by rfl) (T.g 94) (ma_cons (mv 10) ma_nil))) (ms_nil)))) (ms_one (ms_ret (mv 6))))))
theorem okr_House_tied (T : TX K mg) : FnR P w K mg base (L2.CX P w) 14 (recFn K (ma K (ga K "House") "tied") "classmethod") (spM ⟨P, w, K⟩ (m_House_tied cs)) := (okd_House_tied T).r (fun _ _ _ _ _ _ us hl => match us, hl with | [_, _, _], _ => rfl)
theorem okd_House___eq__ (T : TX K mg) : FnD P w K mg base 14 (ma K (ga K "House") "__eq__") ["self", "other"] (spM ⟨P, w, K⟩ (m_House___eq__ cs)) d_House___eq__.name d_House___eq__.qual d_House___eq__.params d_House___eq__.body d_House___eq__.scope :=
  def_of (T.d 64) sc_House___eq__ rfl rfl fun cdv A outer s H E hr => ms_cons (ms_if (mt_not (mt_val (me_callB (cs_isi (kf T)) (by rfl) (T.f 109) (by decide +kernel) (ma_cons (mv 1) (ma_cons (me_gl (pe_glob (v := .ref (ga K "House")) (by rfl) (T.g 98) rfl)) ma_nil))))) (ms_one (ms_ret me_bl)) (ms_nil)) (ms_cons (ms_if (mt_cmp (os_ne hr.units) (me_tup (ma_cons (me_fld (mv 0) ((kf T).cl "House" (by decide +kernel)) (eqO_ok (xe T 98))) (ma_cons (me_fld (mv 0) ((kf T).cl "House" (by decide +kernel)) (eqO_ok (xe T 99))) ma_nil))) (me_tup (ma_cons (me_fld (mv 1) ((kf T).cl "House" (by decide +kernel)) (eqO_ok (xe T 98))) (ma_cons (me_fld (mv 1) ((kf T).cl "House" (by decide +kernel)) (eqO_ok (xe T 99))) ma_nil))) (nomark _)) (ms_one (ms_ret me_bl)) (ms_nil)) (ms_one (ms_ret (me_callB (cs_all rfl) (by rfl) (T.f 102) (by decide +kernel) (ma_cons (me_lc (own := [("day", 2)]) false (by rfl) sc_House___eq__.nd (mi_keys (me_fld (mv 0) ((kf T).cl "House" (by decide +kernel)) (eqO_ok (xe T 100)))) (blkOk_by (own := [("day", 2)]) (N := ["self", "other", "day"]) (sc := defScope s_House___eq__) (by decide +kernel)) (fun _ _ _ _ _ => (mg_name (i := 2) sc_House___eq__.nd rfl (by first | exact .inl rfl | exact .inr rfl))) (fun _ _ _ _ _ => mts_nil) (fun _ _ _ _ _ => (me_cmp (os_eqR (kf T) (methB_ok (xe T 60)) (okr_Ratio___eq__ T) (hr.mono (by decide))) (me_ix (is_IX hr.units) (me_fld (mv 0) ((kf T).cl "House" (by decide +kernel)) (eqO_ok (xe T 100))) (mv 2) (fun _ _ => rfl)) (me_ix (is_IX hr.units) (me_fld (mv 1) ((kf T).cl "House" (by decide +kernel)) (eqO_ok (xe T 100))) (mv 2) (fun _ _ => rfl)) (nomark _)))) ma_nil)))))
theorem okr_House___eq__ (T : TX K mg) : FnR P w K mg base (L2.CX P w) 14 (ma K (ga K "House") "__eq__") (spM ⟨P, w, K⟩ (m_House___eq__ cs)) := (okd_House___eq__ T).r (fun _ _ _ _ _ _ us hl => match us, hl with | [_, _], _ => rfl)
theorem okd_is_pair (T : TX K mg) : FnD P w K mg base 2 (ga K "is_pair") ["house", "value"] (spM ⟨P, w, K⟩ (m_is_pair cs)) d_is_pair.name d_is_pair.qual d_is_pair.params d_is_pair.body d_is_pair.scope :=
  def_of (T.d 70) sc_is_pair rfl rfl fun cdv A outer s H E hr => ms_cons (ms_if (PW.pt (mw_or (mt_not (mt_val (me_callB (cs_isi (kf T)) (by rfl) (T.f 109) (by decide +kernel) (ma_cons (mv 1) (ma_cons (me_ty (pe_bltn (v := .ty "tuple") (u := .type "tuple") (by rfl) (T.f 119) (by decide +kernel) rfl)) ma_nil))))) (mw_or (mt_cmp (os_ne hr.units) (me_callB cs_LEN (by rfl) (T.f 110) (by decide +kernel) (ma_cons (mv 1) ma_nil)) me_int (nomark _)) (mw_or1 (mt_val (me_callB (cs_any rfl) (by rfl) (T.f 103) (by decide +kernel) (ma_cons (me_lc (own := [("item", 2)]) false (by rfl) sc_is_pair.nd (mi_seq (mv 1)) (blkOk_by (own := [("item", 2)]) (N := ["house", "value", "item"]) (sc := defScope s_is_pair) (by decide +kernel)) (fun _ _ _ _ _ => (mg_name (i := 2) sc_is_pair.nd rfl (by first | exact .inl rfl | exact .inr rfl))) (fun _ _ _ _ _ => mts_nil) (fun _ _ _ _ _ => (me_not (me_callB (cs_isi (kf T)) (by rfl) (T.f 109) (by decide +kernel) (ma_cons (mv 2) (ma_cons (me_ty (pe_bltn (v := .ty "str") (u := .type "str") (by rfl) (T.f 117) (by decide +kernel) rfl)) ma_nil)))))) ma_nil))))))) (ms_one (ms_ret me_bl)) (ms_nil)) (ms_one (ms_ret (me_cmp (os_IN hr.units) (mv 1) (me_meth0 wayP (mv 0) ((kf T).cl "House" (by decide +kernel)) (methB_ok (xe T 71)) (okr_House_pairs T) (hr.mono (by decide)) (takes_of rfl rfl rfl rfl)) (by rfl))))
theorem okr_is_pair (T : TX K mg) : FnR P w K mg base (L2.CX P w) 2 (ga K "is_pair") (spM ⟨P, w, K⟩ (m_is_pair cs)) := (okd_is_pair T).r (fun _ _ _ _ _ _ us hl => match us, hl with | [_, _], _ => rfl)
theorem okd_need_pair (T : TX K mg) : FnD P w K mg base 3 (ga K "need_pair") ["house", "value"] (spM ⟨P, w, K⟩ (m_need_pair cs)) d_need_pair.name d_need_pair.qual d_need_pair.params d_need_pair.body d_need_pair.scope :=
  def_of (T.d 71) sc_need_pair rfl rfl fun cdv A outer s H E hr => ms_one (ms_if (mt_not (mt_val (me_call wayT (okr_is_pair T) (hr.mono (by decide)) (T.kg 70) (by rfl) (T.g 25) (takes_of rfl rfl rfl rfl) (ma_cons (mv 0) (ma_cons (mv 1) ma_nil))))) (ms_one (ms_raise1 rfl (takes_of rfl rfl rfl rfl) (xo_UnknownPair T) (xi_UnknownPair T) (ok_UnknownPair___init__ T) (hr.mono (by decide)) passL (by rfl) (T.g 94) (ma_cons (mv 1) ma_nil))) (ms_nil))
theorem okr_need_pair (T : TX K mg) : FnR P w K mg base (L2.CX P w) 3 (ga K "need_pair") (spM ⟨P, w, K⟩ (m_need_pair cs)) := (okd_need_pair T).r (fun _ _ _ _ _ _ us hl => match us, hl with | [_, _], _ => rfl)
theorem okd_need_house (T : TX K mg) : FnD P w K mg base 14 (ga K "need_house") ["value"] (spM ⟨P, w, K⟩ (m_need_house cs)) d_need_house.name d_need_house.qual d_need_house.params d_need_house.body d_need_house.scope :=
  def_of (T.d 72) sc_need_house rfl rfl fun cdv A outer s H E hr => ms_one (ms_if (mt_not (mt_val (me_callB (cs_isi (kf T)) (by rfl) (T.f 109) (by decide +kernel) (ma_cons (mv 0) (ma_cons (me_gl (pe_glob (v := .ref (ga K "House")) (by rfl) (T.g 98) rfl)) ma_nil))))) (ms_one (ms_raise1 rfl (takes_of rfl rfl rfl rfl) (xo_InvalidHouse T) (xi_InvalidHouse T) (ok_InvalidHouse___init__ T) (hr.mono (by decide)) passL (by rfl) (T.g 85) (ma_cons (mv 0) ma_nil))) (ms_nil))
theorem okr_need_house (T : TX K mg) : FnR P w K mg base (L2.CX P w) 14 (ga K "need_house") (spM ⟨P, w, K⟩ (m_need_house cs)) := (okd_need_house T).r (fun _ _ _ _ _ _ us hl => match us, hl with | [_], _ => rfl)
theorem okd_House_chance (T : TX K mg) : FnD P w K mg base 4 (ma K (ga K "House") "chance") ["self", "pair"] (spM ⟨P, w, K⟩ (m_House_chance cs)) d_House_chance.name d_House_chance.qual d_House_chance.params d_House_chance.body d_House_chance.scope :=
  def_of (T.d 59) sc_House_chance rfl rfl fun cdv A outer s H E hr => ms_cons (ms_expr (me_call wayT (okr_need_pair T) (hr.mono (by decide)) (T.kg 71) (by rfl) (T.g 26) (takes_of rfl rfl rfl rfl) (ma_cons (mv 0) (ma_cons (mv 1) ma_nil)))) (ms_one (ms_ret (me_ix (is_IX hr.units) (me_fld (mv 0) ((kf T).cl "House" (by decide +kernel)) (eqO_ok (xe T 102))) (mv 1) (fun _ _ => rfl))))
theorem okr_House_chance (T : TX K mg) : FnR P w K mg base (L2.CX P w) 4 (ma K (ga K "House") "chance") (spM ⟨P, w, K⟩ (m_House_chance cs)) := (okd_House_chance T).r (fun _ _ _ _ _ _ us hl => match us, hl with | [_, _], _ => rfl)
theorem okd_House_independent (T : TX K mg) : FnD P w K mg base 1 (recFn K (ma K (ga K "House") "independent") "property") ["self"] (spM ⟨P, w, K⟩ (m_House_independent cs)) d_House_independent.name d_House_independent.qual d_House_independent.params d_House_independent.body d_House_independent.scope :=
  def_of (T.d 63) sc_House_independent rfl rfl fun cdv A outer s H E hr => ms_one (ms_ret (me_fld (mv 0) ((kf T).cl "House" (by decide +kernel)) (eqO_ok (xe T 103))))
theorem okr_House_independent (T : TX K mg) : FnR P w K mg base (L2.CX P w) 1 (recFn K (ma K (ga K "House") "independent") "property") (spM ⟨P, w, K⟩ (m_House_independent cs)) := (okd_House_independent T).r (fun _ _ _ _ _ _ us hl => match us, hl with | [_], _ => rfl)
theorem okd_is_amount (T : TX K mg) : FnD P w K mg base 6 (ga K "is_amount") ["value"] (spM ⟨P, w, K⟩ (m_is_amount cs)) d_is_amount.name d_is_amount.qual d_is_amount.params d_is_amount.body d_is_amount.scope :=
  def_of (T.d 34) sc_is_amount rfl rfl fun cdv A outer s H E hr => ms_one (ms_ret (me_and (me_call wayP (okr_is_number T) (hr.mono (by decide)) (T.kg 33) (by rfl) (T.g 6) (takes_of rfl rfl rfl rfl) (ma_cons (mv 0) ma_nil)) (me_one (me_cmp os_geI (me_ix (is_IX hr.units) (me_call wayP (okr_parts T) (hr.mono (by decide)) (T.kg 19) (by rfl) (T.g 4) (takes_of rfl rfl rfl rfl) (ma_cons (mv 0) ma_nil)) me_int (fun _ _ => rfl)) me_int (nomark _)))))
theorem okr_is_amount (T : TX K mg) : FnR P w K mg base (L2.CX P w) 6 (ga K "is_amount") (spM ⟨P, w, K⟩ (m_is_amount cs)) := (okd_is_amount T).r (fun _ _ _ _ _ _ us hl => match us, hl with | [_], _ => rfl)
theorem okd_need_amount (T : TX K mg) : FnD P w K mg base 7 (ga K "need_amount") ["value"] (spM ⟨P, w, K⟩ (m_need_amount cs)) d_need_amount.name d_need_amount.qual d_need_amount.params d_need_amount.body d_need_amount.scope :=
  def_of (T.d 77) sc_need_amount rfl rfl fun cdv A outer s H E hr => ms_one (ms_if (mt_not (mt_val (me_call wayP (okr_is_amount T) (hr.mono (by decide)) (T.kg 34) (by rfl) (T.g 7) (takes_of rfl rfl rfl rfl) (ma_cons (mv 0) ma_nil)))) (ms_one (ms_raise1 rfl (takes_of rfl rfl rfl rfl) (xo_InvalidNumber T) (xi_InvalidNumber T) (ok_InvalidNumber___init__ T) (hr.mono (by decide)) passL (by rfl) (T.g 82) (ma_cons (mv 0) ma_nil))) (ms_nil))
theorem okr_need_amount (T : TX K mg) : FnR P w K mg base (L2.CX P w) 7 (ga K "need_amount") (spM ⟨P, w, K⟩ (m_need_amount cs)) := (okd_need_amount T).r (fun _ _ _ _ _ _ us hl => match us, hl with | [_], _ => rfl)
theorem okd_need_wish (T : TX K mg) : FnD P w K mg base 17 (ga K "need_wish") ["value"] (spM ⟨P, w, K⟩ (m_need_wish cs)) d_need_wish.name d_need_wish.qual d_need_wish.params d_need_wish.body d_need_wish.scope :=
  def_of (T.d 78) sc_need_wish rfl rfl fun cdv A outer s H E hr => ms_one (ms_if (mt_not (mt_val (me_callB (cs_isi (kf T)) (by rfl) (T.f 109) (by decide +kernel) (ma_cons (mv 0) (ma_cons (me_gl (pe_glob (v := .ref (ga K "Wish")) (by rfl) (T.g 99) rfl)) ma_nil))))) (ms_one (ms_raise1 rfl (takes_of rfl rfl rfl rfl) (xo_InvalidWish T) (xi_InvalidWish T) (ok_InvalidWish___init__ T) (hr.mono (by decide)) passL (by rfl) (T.g 89) (ma_cons (mv 0) ma_nil))) (ms_nil))
theorem okr_need_wish (T : TX K mg) : FnR P w K mg base (L2.CX P w) 17 (ga K "need_wish") (spM ⟨P, w, K⟩ (m_need_wish cs)) := (okd_need_wish T).r (fun _ _ _ _ _ _ us hl => match us, hl with | [_], _ => rfl)
theorem okd_Wish___init__ (T : TX K mg) : FnD P w K mg base 15 (ma K (ga K "Wish") "__init__") ["self", "house", "numbers"] (spM ⟨P, w, K⟩ (m_Wish___init__ cs)) d_Wish___init__.name d_Wish___init__.qual d_Wish___init__.params d_Wish___init__.body d_Wish___init__.scope :=
  def_of (T.d 80) sc_Wish___init__ rfl rfl fun cdv A outer s H E hr => ms_cons (ms_expr (me_call wayT (okr_need_house T) (hr.mono (by decide)) (T.kg 72) (by rfl) (T.g 27) (takes_of rfl rfl rfl rfl) (ma_cons (mv 1) ma_nil))) (ms_cons (ms_if (mt_not (mt_val (me_callB (cs_isi (kf T)) (by rfl) (T.f 109) (by decide +kernel) (ma_cons (mv 2) (ma_cons (me_ty (pe_bltn (v := .ty "dict") (u := .type "dict") (by rfl) (T.f 106) (by decide +kernel) rfl)) ma_nil))))) (ms_one (ms_raise1 rfl (takes_of rfl rfl rfl rfl) (xo_InvalidWish T) (xi_InvalidWish T) (ok_InvalidWish___init__ T) (hr.mono (by decide)) passL (by rfl) (T.g 89) (ma_cons (mv 2) ma_nil))) (ms_nil)) (ms_cons (ms_for (us := [3, 4]) (passes_of rfl) rfl (mi_items (mv 2)) (mg_tup rfl (mgs_cons (mg_name (i := 3) sc_Wish___init__.nd rfl (.inl rfl)) (mgs_cons (mg_name (i := 4) sc_Wish___init__.nd rfl (.inl rfl)) mgs_nil))) (ms_cons (ms_expr (me_call wayT (okr_need_pair T) (hr.mono (by decide)) (T.kg 71) (by rfl) (T.g 26) (takes_of rfl rfl rfl rfl) (ma_cons (mv 1) (ma_cons (mv 3) ma_nil)))) (ms_one (ms_expr (me_call wayP (okr_need_amount T) (hr.mono (by decide)) (T.kg 77) (by rfl) (T.g 32) (takes_of rfl rfl rfl rfl) (ma_cons (mv 4) ma_nil)))))) (ms_cons (ms_fld (mv 0) (mv 1) ((kf T).cl "Wish" (by decide +kernel)) (eqO_ok (xe T 105))) (ms_one (ms_fld (mv 0) (me_fz (me_dc (own := [("pair", 5)]) hr.units (by rfl) sc_Wish___init__.nd (mi_seq (me_meth0 wayP (mv 1) ((kf T).cl "House" (by decide +kernel)) (methB_ok (xe T 71)) (okr_House_pairs T) (hr.mono (by decide)) (takes_of rfl rfl rfl rfl))) (blkOk_by (own := [("pair", 5)]) (N := ["self", "house", "numbers", "key", "number", "pair"]) (sc := defScope s_Wish___init__) (by decide +kernel)) (fun _ _ _ _ _ => (mg_name (i := 5) sc_Wish___init__.nd rfl (by first | exact .inl rfl | exact .inr rfl))) (fun _ _ _ _ _ => mts_nil) (fun _ _ _ _ _ => (mv 5)) (fun _ _ _ _ _ => (me_call wayP (okr_as_ratio T) (hr.mono (by decide)) (T.kg 35) (by rfl) (T.g 8) takes_F (ma_cons (me_bmD PySem.F.slot_dict_get PySem.F.type_dict_get (mq_getD hr.units) (mv 2) (ma_cons (mv 5) (ma_cons me_int ma_nil))) ma_nil))))) ((kf T).cl "Wish" (by decide +kernel)) (eqO_ok (xe T 106)))))))
theorem okr_Wish___init__ (T : TX K mg) : FnR P w K mg base (L2.CX P w) 15 (ma K (ga K "Wish") "__init__") (spM ⟨P, w, K⟩ (m_Wish___init__ cs)) := (okd_Wish___init__ T).r (fun _ _ _ _ _ _ us hl => match us, hl with | [_, _, _], _ => rfl)
theorem okd_Wish___eq__ (T : TX K mg) : FnD P w K mg base 17 (ma K (ga K "Wish") "__eq__") ["self", "other"] (spM ⟨P, w, K⟩ (m_Wish___eq__ cs)) d_Wish___eq__.name d_Wish___eq__.qual d_Wish___eq__.params d_Wish___eq__.body d_Wish___eq__.scope :=
  def_of (T.d 92) sc_Wish___eq__ rfl rfl fun cdv A outer s H E hr => ms_cons (ms_if (PW.pt (mw_or (mt_not (mt_val (me_callB (cs_isi (kf T)) (by rfl) (T.f 109) (by decide +kernel) (ma_cons (mv 1) (ma_cons (me_gl (pe_glob (v := .ref (ga K "Wish")) (by rfl) (T.g 99) rfl)) ma_nil))))) (mw_or1 (mt_not (mt_cmp (os_eqC (kf T) (by decide) (methB_ok (xe T 78)) (okr_House___eq__ T) (hr.mono (by decide))) (me_fld (mv 0) ((kf T).cl "Wish" (by decide +kernel)) (eqO_ok (xe T 105))) (me_fld (mv 1) ((kf T).cl "Wish" (by decide +kernel)) (eqO_ok (xe T 105))) (nomark _)))))) (ms_one (ms_ret me_bl)) (ms_nil)) (ms_one (ms_ret (me_callB (cs_all rfl) (by rfl) (T.f 102) (by decide +kernel) (ma_cons (me_lc (own := [("pair", 2), ("number", 3)]) false (by rfl) sc_Wish___eq__.nd (mi_items (me_fld (mv 0) ((kf T).cl "Wish" (by decide +kernel)) (eqO_ok (xe T 106)))) (blkOk_by (own := [("pair", 2), ("number", 3)]) (N := ["self", "other", "pair", "number"]) (sc := defScope s_Wish___eq__) (by decide +kernel)) (fun _ _ _ _ _ => (mg_tup rfl (mgs_cons (mg_name (i := 2) sc_Wish___eq__.nd rfl (by first | exact .inl rfl | exact .inr rfl)) (mgs_cons (mg_name (i := 3) sc_Wish___eq__.nd rfl (by first | exact .inl rfl | exact .inr rfl)) mgs_nil)))) (fun _ _ _ _ _ => mts_nil) (fun _ _ _ _ _ => (me_cmp (os_eqR (kf T) (methB_ok (xe T 60)) (okr_Ratio___eq__ T) (hr.mono (by decide))) (mv 3) (me_ix (is_IX hr.units) (me_fld (mv 1) ((kf T).cl "Wish" (by decide +kernel)) (eqO_ok (xe T 106))) (mv 2) (fun _ _ => rfl)) (nomark _)))) ma_nil))))
theorem okr_Wish___eq__ (T : TX K mg) : FnR P w K mg base (L2.CX P w) 17 (ma K (ga K "Wish") "__eq__") (spM ⟨P, w, K⟩ (m_Wish___eq__ cs)) := (okd_Wish___eq__ T).r (fun _ _ _ _ _ _ us hl => match us, hl with | [_, _], _ => rfl)
theorem okd_told_values (T : TX K mg) : FnD P w K mg base 8 (ga K "told_values") ["house", "values"] (spM ⟨P, w, K⟩ (m_told_values cs)) d_told_values.name d_told_values.qual d_told_values.params d_told_values.body d_told_values.scope :=
  def_of (T.d 98) sc_told_values rfl rfl fun cdv A outer s H E hr => ms_cons (ms_if (mt_not (mt_val (me_callB (cs_isi (kf T)) (by rfl) (T.f 109) (by decide +kernel) (ma_cons (mv 1) (ma_cons (me_ty (pe_bltn (v := .ty "dict") (u := .type "dict") (by rfl) (T.f 106) (by decide +kernel) rfl)) ma_nil))))) (ms_one (ms_raise1 rfl (takes_of rfl rfl rfl rfl) (xo_InvalidWorths T) (xi_InvalidWorths T) (ok_InvalidWorths___init__ T) (hr.mono (by decide)) passL (by rfl) (T.g 91) (ma_cons (mv 1) ma_nil))) (ms_nil)) (ms_cons (ms_for (us := [2, 3]) (passes_of rfl) rfl (mi_items (mv 1)) (mg_tup rfl (mgs_cons (mg_name (i := 2) sc_told_values.nd rfl (.inl rfl)) (mgs_cons (mg_name (i := 3) sc_told_values.nd rfl (.inl rfl)) mgs_nil))) (ms_cons (ms_expr (me_call wayT (okr_need_pair T) (hr.mono (by decide)) (T.kg 71) (by rfl) (T.g 26) (takes_of rfl rfl rfl rfl) (ma_cons (mv 0) (ma_cons (mv 2) ma_nil)))) (ms_one (ms_if (mt_not (mt_val (me_call wayP (okr_is_amount T) (hr.mono (by decide)) (T.kg 34) (by rfl) (T.g 7) (takes_of rfl rfl rfl rfl) (ma_cons (mv 3) ma_nil)))) (ms_one (ms_raise1 rfl (takes_of rfl rfl rfl rfl) (xo_InvalidNumber T) (xi_InvalidNumber T) (ok_InvalidNumber___init__ T) (hr.mono (by decide)) passL (by rfl) (T.g 82) (ma_cons (mv 3) ma_nil))) (ms_nil))))) (ms_cons (ms_set (i := 4) sc_told_values.nd rfl (.inr rfl) (me_fz (me_dc (own := [("pair", 5)]) hr.units (by rfl) sc_told_values.nd (mi_seq (me_meth0 wayP (mv 0) ((kf T).cl "House" (by decide +kernel)) (methB_ok (xe T 71)) (okr_House_pairs T) (hr.mono (by decide)) (takes_of rfl rfl rfl rfl))) (blkOk_by (own := [("pair", 5)]) (N := ["house", "values", "key", "value", "found", "pair", "other"]) (sc := defScope s_told_values) (by decide +kernel)) (fun _ _ _ _ _ => (mg_name (i := 5) sc_told_values.nd rfl (by first | exact .inl rfl | exact .inr rfl))) (fun _ _ _ _ _ => mts_nil) (fun _ _ _ _ _ => (mv 5)) (fun _ _ _ _ _ => (me_call wayP (okr_as_ratio T) (hr.mono (by decide)) (T.kg 35) (by rfl) (T.g 8) takes_F (ma_cons (me_bmD PySem.F.slot_dict_get PySem.F.type_dict_get (mq_getD hr.units) (mv 1) (ma_cons (mv 5) (ma_cons me_int ma_nil))) ma_nil)))))) (ms_cons (ms_frz (ms_for (us := [5]) (passes_of rfl) rfl (mi_keys (mv 4)) (mg_name (i := 5) sc_told_values.nd rfl (.inr rfl)) (ms_one (ms_if (mt_val (me_callB (cs_any rfl) (by rfl) (T.f 103) (by decide +kernel) (ma_cons (me_lc (own := [("other", 6)]) false (by rfl) sc_told_values.nd (mi_keys (mv 4)) (blkOk_by (own := [("other", 6)]) (N := ["house", "values", "key", "value", "found", "pair", "other"]) (sc := defScope s_told_values) (by decide +kernel)) (fun _ _ _ _ _ => (mg_name (i := 6) sc_told_values.nd rfl (by first | exact .inl rfl | exact .inr rfl))) (fun _ _ _ _ _ => mts_nil) (fun _ _ _ _ _ => (me_and (me_cmp (os_eq hr.units) (me_ix (is_IX hr.units) (mv 6) me_int (fun _ _ => rfl)) (me_ix (is_IX hr.units) (mv 5) me_int (fun _ _ => rfl)) (nomark _)) (me_and (me_cmp (os_ne hr.units) (mv 6) (mv 5) (nomark _)) (me_one (me_cmp (os_eqR (kf T) (methB_ok (xe T 60)) (okr_Ratio___eq__ T) (hr.mono (by decide))) (me_ix (is_IX hr.units) (mv 4) (mv 6) (fun _ _ => rfl)) (me_ix (is_IX hr.units) (mv 4) (mv 5) (fun _ _ => rfl)) (nomark _))))))) ma_nil))) (ms_one (ms_raise1 rfl (takes_of rfl rfl rfl rfl) (xo_InvalidWorths T) (xi_InvalidWorths T) (ok_InvalidWorths___init__ T) (hr.mono (by decide)) passL (by rfl) (T.g 91) (ma_cons (mv 1) ma_nil))) (ms_nil))))) (ms_cons (ms_if (mt_not (mt_val (me_prpC ((kf T).cl "House" (by decide +kernel)) (propB_ok (xe T 77)) (okr_House_independent T) (hr.mono (by decide)) (mv 0)))) (ms_one (ms_raise0 rfl (takes_of rfl rfl rfl rfl) (xo_NotIndependent T) (xi_NotIndependent T) (ok_NotIndependent___init__ T) (hr.mono (by decide)) passL (by rfl) (T.g 95))) (ms_nil)) (ms_one (ms_ret (mv 4)))))))
theorem okr_told_values (T : TX K mg) : FnR P w K mg base (L2.CX P w) 8 (ga K "told_values") (spM ⟨P, w, K⟩ (m_told_values cs)) := (okd_told_values T).r (fun _ _ _ _ _ _ us hl => match us, hl with | [_, _], _ => rfl)
theorem okd_told_payments (T : TX K mg) : FnD P w K mg base 7 (ga K "told_payments") ["house", "told"] (spM ⟨P, w, K⟩ (m_told_payments cs)) d_told_payments.name d_told_payments.qual d_told_payments.params d_told_payments.body d_told_payments.scope :=
  def_of (T.d 99) sc_told_payments rfl rfl fun cdv A outer s H E hr => ms_cons (ms_if (mt_not (mt_val (me_callB (cs_isi (kf T)) (by rfl) (T.f 109) (by decide +kernel) (ma_cons (mv 1) (ma_cons (me_ty (pe_bltn (v := .ty "dict") (u := .type "dict") (by rfl) (T.f 106) (by decide +kernel) rfl)) ma_nil))))) (ms_one (ms_raise1 rfl (takes_of rfl rfl rfl rfl) (xo_InvalidWorths T) (xi_InvalidWorths T) (ok_InvalidWorths___init__ T) (hr.mono (by decide)) passL (by rfl) (T.g 91) (ma_cons (mv 1) ma_nil))) (ms_nil)) (ms_cons (ms_for (us := [2, 3]) (passes_of rfl) rfl (mi_items (mv 1)) (mg_tup rfl (mgs_cons (mg_name (i := 2) sc_told_payments.nd rfl (.inl rfl)) (mgs_cons (mg_name (i := 3) sc_told_payments.nd rfl (.inl rfl)) mgs_nil))) (ms_cons (ms_expr (me_call wayT (okr_need_pair T) (hr.mono (by decide)) (T.kg 71) (by rfl) (T.g 26) (takes_of rfl rfl rfl rfl) (ma_cons (mv 0) (ma_cons (mv 2) ma_nil)))) (ms_one (ms_if (mt_not (mt_val (me_call wayP (okr_is_number T) (hr.mono (by decide)) (T.kg 33) (by rfl) (T.g 6) (takes_of rfl rfl rfl rfl) (ma_cons (mv 3) ma_nil)))) (ms_one (ms_raise1 rfl (takes_of rfl rfl rfl rfl) (xo_InvalidNumber T) (xi_InvalidNumber T) (ok_InvalidNumber___init__ T) (hr.mono (by decide)) passL (by rfl) (T.g 82) (ma_cons (mv 3) ma_nil))) (ms_nil))))) (ms_one (ms_ret (me_fz (me_dc (own := [("pair", 4)]) hr.units (by rfl) sc_told_payments.nd (mi_seq (me_meth0 wayP (mv 0) ((kf T).cl "House" (by decide +kernel)) (methB_ok (xe T 71)) (okr_House_pairs T) (hr.mono (by decide)) (takes_of rfl rfl rfl rfl))) (blkOk_by (own := [("pair", 4)]) (N := ["house", "told", "key", "value", "pair"]) (sc := defScope s_told_payments) (by decide +kernel)) (fun _ _ _ _ _ => (mg_name (i := 4) sc_told_payments.nd rfl (by first | exact .inl rfl | exact .inr rfl))) (fun _ _ _ _ _ => mts_nil) (fun _ _ _ _ _ => (mv 4)) (fun _ _ _ _ _ => (me_call wayP (okr_as_ratio T) (hr.mono (by decide)) (T.kg 35) (by rfl) (T.g 8) takes_F (ma_cons (me_bmD PySem.F.slot_dict_get PySem.F.type_dict_get (mq_getD hr.units) (mv 1) (ma_cons (mv 4) (ma_cons me_int ma_nil))) ma_nil))))))))
theorem okr_told_payments (T : TX K mg) : FnR P w K mg base (L2.CX P w) 7 (ga K "told_payments") (spM ⟨P, w, K⟩ (m_told_payments cs)) := (okd_told_payments T).r (fun _ _ _ _ _ _ us hl => match us, hl with | [_, _], _ => rfl)
theorem okd_fall_of (T : TX K mg) : FnD P w K mg base 9 (ga K "fall_of") ["wish", "known"] (spM ⟨P, w, K⟩ (m_fall_of cs)) d_fall_of.name d_fall_of.qual d_fall_of.params d_fall_of.body d_fall_of.scope :=
  def_of (T.d 101) sc_fall_of rfl rfl fun cdv A outer s H E hr => ms_dead
theorem okr_fall_of (T : TX K mg) : FnR P w K mg base (L2.CX P w) 9 (ga K "fall_of") (spM ⟨P, w, K⟩ (m_fall_of cs)) := (okd_fall_of T).r (fun _ _ _ _ _ _ us hl => match us, hl with | [_, _], _ => rfl)
theorem okd_fall (T : TX K mg) : FnD P w K mg base 18 (ga K "fall") ["wish", "values"] (spM ⟨P, w, K⟩ (m_fall cs)) d_fall.name d_fall.qual d_fall.params d_fall.body d_fall.scope :=
  def_of (T.d 102) sc_fall rfl rfl fun cdv A outer s H E hr => ms_cons (ms_expr (me_call wayT (okr_need_wish T) (hr.mono (by decide)) (T.kg 78) (by rfl) (T.g 33) (takes_of rfl rfl rfl rfl) (ma_cons (mv 0) ma_nil))) (ms_one (ms_ret (me_call wayP (okr_fall_of T) (hr.mono (by decide)) (T.kg 101) (by rfl) (T.g 42) (takes_of rfl rfl rfl rfl) (ma_cons (mv 0) (ma_cons (me_call wayP (okr_told_values T) (hr.mono (by decide)) (T.kg 98) (by rfl) (T.g 39) (takes_of rfl rfl rfl rfl) (ma_cons (me_fld (mv 0) ((kf T).cl "Wish" (by decide +kernel)) (eqO_ok (xe T 105))) (ma_cons (mv 1) ma_nil))) ma_nil)))))
theorem okr_fall (T : TX K mg) : FnR P w K mg base (L2.CX P w) 18 (ga K "fall") (spM ⟨P, w, K⟩ (m_fall cs)) := (okd_fall T).r (fun _ _ _ _ _ _ us hl => match us, hl with | [_, _], _ => rfl)
theorem okd_lies_of (T : TX K mg) : FnD P w K mg base 7 (ga K "lies_of") ["wish", "known", "paid"] (spM ⟨P, w, K⟩ (m_lies_of cs)) d_lies_of.name d_lies_of.qual d_lies_of.params d_lies_of.body d_lies_of.scope :=
  def_of (T.d 104) sc_lies_of rfl rfl fun cdv A outer s H E hr => ms_dead
theorem okr_lies_of (T : TX K mg) : FnR P w K mg base (L2.CX P w) 7 (ga K "lies_of") (spM ⟨P, w, K⟩ (m_lies_of cs)) := (okd_lies_of T).r (fun _ _ _ _ _ _ us hl => match us, hl with | [_, _, _], _ => rfl)
theorem okd_lies (T : TX K mg) : FnD P w K mg base 18 (ga K "lies") ["wish", "values", "payments"] (spM ⟨P, w, K⟩ (m_lies cs)) d_lies.name d_lies.qual d_lies.params d_lies.body d_lies.scope :=
  def_of (T.d 105) sc_lies rfl rfl fun cdv A outer s H E hr => ms_cons (ms_expr (me_call wayT (okr_need_wish T) (hr.mono (by decide)) (T.kg 78) (by rfl) (T.g 33) (takes_of rfl rfl rfl rfl) (ma_cons (mv 0) ma_nil))) (ms_cons (ms_set (i := 3) sc_lies.nd rfl (.inl rfl) (me_call wayP (okr_told_values T) (hr.mono (by decide)) (T.kg 98) (by rfl) (T.g 39) (takes_of rfl rfl rfl rfl) (ma_cons (me_fld (mv 0) ((kf T).cl "Wish" (by decide +kernel)) (eqO_ok (xe T 105))) (ma_cons (mv 1) ma_nil)))) (ms_one (ms_ret (me_call wayP (okr_lies_of T) (hr.mono (by decide)) (T.kg 104) (by rfl) (T.g 45) (takes_of rfl rfl rfl rfl) (ma_cons (mv 0) (ma_cons (mv 3) (ma_cons (me_call wayP (okr_told_payments T) (hr.mono (by decide)) (T.kg 99) (by rfl) (T.g 40) (takes_of rfl rfl rfl rfl) (ma_cons (me_fld (mv 0) ((kf T).cl "Wish" (by decide +kernel)) (eqO_ok (xe T 105))) (ma_cons (mv 2) ma_nil))) ma_nil)))))))
theorem okr_lies (T : TX K mg) : FnR P w K mg base (L2.CX P w) 18 (ga K "lies") (spM ⟨P, w, K⟩ (m_lies cs)) := (okd_lies T).r (fun _ _ _ _ _ _ us hl => match us, hl with | [_, _, _], _ => rfl)
theorem okd_are_fair (T : TX K mg) : FnD P w K mg base 18 (ga K "are_fair") ["wish", "values", "payments"] (spM ⟨P, w, K⟩ (m_are_fair cs)) d_are_fair.name d_are_fair.qual d_are_fair.params d_are_fair.body d_are_fair.scope :=
  def_of (T.d 106) sc_are_fair rfl rfl fun cdv A outer s H E hr => ms_cons (ms_expr (me_call wayT (okr_need_wish T) (hr.mono (by decide)) (T.kg 78) (by rfl) (T.g 33) (takes_of rfl rfl rfl rfl) (ma_cons (mv 0) ma_nil))) (ms_cons (ms_set (i := 3) sc_are_fair.nd rfl (.inr rfl) (me_call wayP (okr_told_values T) (hr.mono (by decide)) (T.kg 98) (by rfl) (T.g 39) (takes_of rfl rfl rfl rfl) (ma_cons (me_fld (mv 0) ((kf T).cl "Wish" (by decide +kernel)) (eqO_ok (xe T 105))) (ma_cons (mv 1) ma_nil)))) (ms_cons (ms_set (i := 4) sc_are_fair.nd rfl (.inr rfl) (me_call wayP (okr_told_payments T) (hr.mono (by decide)) (T.kg 99) (by rfl) (T.g 40) (takes_of rfl rfl rfl rfl) (ma_cons (me_fld (mv 0) ((kf T).cl "Wish" (by decide +kernel)) (eqO_ok (xe T 105))) (ma_cons (mv 2) ma_nil)))) (ms_dead)))
theorem okr_are_fair (T : TX K mg) : FnR P w K mg base (L2.CX P w) 18 (ga K "are_fair") (spM ⟨P, w, K⟩ (m_are_fair cs)) := (okd_are_fair T).r (fun _ _ _ _ _ _ us hl => match us, hl with | [_, _, _], _ => rfl)
theorem okd_greatest_payments (T : TX K mg) : FnD P w K mg base 18 (ga K "greatest_payments") ["wish", "values"] (spM ⟨P, w, K⟩ (m_greatest_payments cs)) d_greatest_payments.name d_greatest_payments.qual d_greatest_payments.params d_greatest_payments.body d_greatest_payments.scope :=
  def_of (T.d 108) sc_greatest_payments rfl rfl fun cdv A outer s H E hr => ms_cons (ms_expr (me_call wayT (okr_need_wish T) (hr.mono (by decide)) (T.kg 78) (by rfl) (T.g 33) (takes_of rfl rfl rfl rfl) (ma_cons (mv 0) ma_nil))) (ms_cons (ms_set (i := 2) sc_greatest_payments.nd rfl (.inl rfl) (me_call wayP (okr_told_values T) (hr.mono (by decide)) (T.kg 98) (by rfl) (T.g 39) (takes_of rfl rfl rfl rfl) (ma_cons (me_fld (mv 0) ((kf T).cl "Wish" (by decide +kernel)) (eqO_ok (xe T 105))) (ma_cons (mv 1) ma_nil)))) (ms_dead))
theorem okr_greatest_payments (T : TX K mg) : FnR P w K mg base (L2.CX P w) 18 (ga K "greatest_payments") (spM ⟨P, w, K⟩ (m_greatest_payments cs)) := (okd_greatest_payments T).r (fun _ _ _ _ _ _ us hl => match us, hl with | [_, _], _ => rfl)
theorem okd_income (T : TX K mg) : FnD P w K mg base 15 (ga K "income") ["house", "payments"] (spM ⟨P, w, K⟩ (m_income cs)) d_income.name d_income.qual d_income.params d_income.body d_income.scope :=
  def_of (T.d 109) sc_income rfl rfl fun cdv A outer s H E hr => ms_cons (ms_expr (me_call wayT (okr_need_house T) (hr.mono (by decide)) (T.kg 72) (by rfl) (T.g 27) (takes_of rfl rfl rfl rfl) (ma_cons (mv 0) ma_nil))) (ms_one (ms_ret (me_call wayP (okr_total T) (hr.mono (by decide)) (T.kg 37) (by rfl) (T.g 10) (takes_of rfl rfl rfl rfl) (ma_cons (me_lc (own := [("pair", 2), ("paid", 3)]) false (by rfl) sc_income.nd (mi_items (me_call wayP (okr_told_payments T) (hr.mono (by decide)) (T.kg 99) (by rfl) (T.g 40) (takes_of rfl rfl rfl rfl) (ma_cons (mv 0) (ma_cons (mv 1) ma_nil)))) (blkOk_by (own := [("pair", 2), ("paid", 3)]) (N := ["house", "payments", "pair", "paid"]) (sc := defScope s_income) (by decide +kernel)) (fun _ _ _ _ _ => (mg_tup rfl (mgs_cons (mg_name (i := 2) sc_income.nd rfl (by first | exact .inl rfl | exact .inr rfl)) (mgs_cons (mg_name (i := 3) sc_income.nd rfl (by first | exact .inl rfl | exact .inr rfl)) mgs_nil)))) (fun _ _ _ _ _ => mts_nil) (fun _ _ _ _ _ => (me_op (os_binR (nm := "mul") rfl (ownOpB_ok (xe T 57)) (okr_Ratio___mul__ T) (hr.mono (by decide))) (me_meth wayP (mv 0) ((kf T).cl "House" (by decide +kernel)) (methB_ok (xe T 73)) (okr_House_chance T) (hr.mono (by decide)) takes_F (ma_cons (mv 2) ma_nil)) (mv 3)))) ma_nil))))
theorem okr_income (T : TX K mg) : FnR P w K mg base (L2.CX P w) 15 (ga K "income") (spM ⟨P, w, K⟩ (m_income cs)) := (okd_income T).r (fun _ _ _ _ _ _ us hl => match us, hl with | [_, _], _ => rfl)
theorem okd_evened_of (T : TX K mg) : FnD P w K mg base 10 (ga K "evened_of") ["house", "known"] (spM ⟨P, w, K⟩ (m_evened_of cs)) d_evened_of.name d_evened_of.qual d_evened_of.params d_evened_of.body d_evened_of.scope :=
  def_of (T.d 114) sc_evened_of rfl rfl fun cdv A outer s H E hr => ms_dead
theorem okr_evened_of (T : TX K mg) : FnR P w K mg base (L2.CX P w) 10 (ga K "evened_of") (spM ⟨P, w, K⟩ (m_evened_of cs)) := (okd_evened_of T).r (fun _ _ _ _ _ _ us hl => match us, hl with | [_, _], _ => rfl)
theorem okd_evened (T : TX K mg) : FnD P w K mg base 15 (ga K "evened") ["house", "values"] (spM ⟨P, w, K⟩ (m_evened cs)) d_evened.name d_evened.qual d_evened.params d_evened.body d_evened.scope :=
  def_of (T.d 115) sc_evened rfl rfl fun cdv A outer s H E hr => ms_cons (ms_expr (me_call wayT (okr_need_house T) (hr.mono (by decide)) (T.kg 72) (by rfl) (T.g 27) (takes_of rfl rfl rfl rfl) (ma_cons (mv 0) ma_nil))) (ms_one (ms_ret (me_call wayP (okr_evened_of T) (hr.mono (by decide)) (T.kg 114) (by rfl) (T.g 52) (takes_of rfl rfl rfl rfl) (ma_cons (mv 0) (ma_cons (me_call wayP (okr_told_values T) (hr.mono (by decide)) (T.kg 98) (by rfl) (T.g 39) (takes_of rfl rfl rfl rfl) (ma_cons (mv 0) (ma_cons (mv 1) ma_nil))) ma_nil)))))
theorem okr_evened (T : TX K mg) : FnR P w K mg base (L2.CX P w) 15 (ga K "evened") (spM ⟨P, w, K⟩ (m_evened cs)) := (okd_evened T).r (fun _ _ _ _ _ _ us hl => match us, hl with | [_, _], _ => rfl)
theorem okd_best_income (T : TX K mg) : FnD P w K mg base 18 (ga K "best_income") ["house", "values"] (spM ⟨P, w, K⟩ (m_best_income cs)) d_best_income.name d_best_income.qual d_best_income.params d_best_income.body d_best_income.scope :=
  def_of (T.d 116) sc_best_income rfl rfl fun cdv A outer s H E hr => ms_cons (ms_expr (me_call wayT (okr_need_house T) (hr.mono (by decide)) (T.kg 72) (by rfl) (T.g 27) (takes_of rfl rfl rfl rfl) (ma_cons (mv 0) ma_nil))) (ms_cons (ms_set (i := 2) sc_best_income.nd rfl (.inl rfl) (me_call wayT (okr_told_values T) (hr.mono (by decide)) (T.kg 98) (by rfl) (T.g 39) (takes_of rfl rfl rfl rfl) (ma_cons (mv 0) (ma_cons (mv 1) ma_nil)))) (ms_dead))
theorem okr_best_income (T : TX K mg) : FnR P w K mg base (L2.CX P w) 18 (ga K "best_income") (spM ⟨P, w, K⟩ (m_best_income cs)) := (okd_best_income T).r (fun _ _ _ _ _ _ us hl => match us, hl with | [_, _], _ => rfl)
end
end Lw
set_option Elab.async false
set_option linter.all false
set_option maxRecDepth 100000
set_option maxHeartbeats 4000000
namespace Lw
open PySem PySem.Spec PyProof.Rows L2 He Wl Mi
section
variable {P : Program} {w : World} {K : PySem.W.Frag} {mg : Str → Option Value} {base : Heap}
theorem okd__law_cell (T : TX K mg) : FnD P w K mg base 1 (ga K "_law_cell") ["_law_script", "_law_k"] (spM ⟨P, w, K⟩ (m__law_cell cs)) d__law_cell.name d__law_cell.qual d__law_cell.params d__law_cell.body d__law_cell.scope :=
  def_of (T.d 117) sc__law_cell rfl rfl fun cdv A outer s H E hr => ms_cons (ms_if (mt_cmp os_lt (mv 1) (me_callB cs_LEN (by rfl) (T.f 110) (by decide +kernel) (ma_cons (mv 0) ma_nil)) (nomark _)) (ms_one (ms_ret (me_ix (is_IX hr.units) (mv 0) (mv 1) (fun _ _ => rfl)))) (ms_nil)) (ms_one (ms_ret (me_op os_add (me_op os_mul me_int (mv 1)) me_int)))
theorem okr__law_cell (T : TX K mg) : FnR P w K mg base (L2.CX P w) 1 (ga K "_law_cell") (spM ⟨P, w, K⟩ (m__law_cell cs)) := (okd__law_cell T).r (fun _ _ _ _ _ _ us hl => match us, hl with | [_, _], _ => rfl)
theorem okd__law_box (T : TX K mg) : FnD P w K mg base 1 (ga K "_law_box") ["_law_cell_here"] (spM ⟨P, w, K⟩ (m__law_box cs)) d__law_box.name d__law_box.qual d__law_box.params d__law_box.body d__law_box.scope :=
  def_of (T.d 118) sc__law_box rfl rfl fun cdv A outer s H E hr => ms_one (ms_ret (me_lstO (ma_cons (me_callB (cs_max2 rfl) (by rfl) (T.f 112) (by decide +kernel) (ma_cons me_int (ma_cons (me_op os_subI (mv 0) (me_op os_powI me_int me_int)) ma_nil))) (ma_cons (me_op os_modI (mv 0) me_int) (ma_cons me_int ma_nil)))))
theorem okr__law_box (T : TX K mg) : FnR P w K mg base (L2.CX P w) 1 (ga K "_law_box") (spM ⟨P, w, K⟩ (m__law_box cs)) := (okd__law_box T).r (fun _ _ _ _ _ _ us hl => match us, hl with | [_], _ => rfl)
theorem okd__law_take (T : TX K mg) : FnD P w K mg base 1 (ga K "_law_take") ["_law_box_here", "_law_many"] (spM ⟨P, w, K⟩ (m__law_take cs)) d__law_take.name d__law_take.qual d__law_take.params d__law_take.body d__law_take.scope :=
  def_of (T.d 119) sc__law_take rfl rfl fun cdv A outer s H E hr => ms_cons (ms_if (mt_cmp os_gtI (me_ix (is_IX hr.units) (mv 0) me_int (fun _ _ => rfl)) me_int (nomark _)) (ms_cons (ms_set (i := 2) sc__law_take.nd rfl (.inl rfl) (me_op os_modI (me_ix (is_IX hr.units) (mv 0) me_int (fun _ _ => rfl)) (mv 1))) (ms_cons (ms_asg (us := []) (me_op os_divI (me_ix (is_IX hr.units) (mv 0) me_int (fun _ _ => rfl)) (mv 1)) (mg_sub (Wx := wF) (mv 0) me_int (sq_set hr.units))) (ms_one (ms_ret (mv 2))))) (ms_nil)) (ms_cons (ms_asg (us := []) (me_op os_add (me_ix (is_IX hr.units) (mv 0) me_int (fun _ _ => rfl)) me_int) (mg_sub (Wx := wF) (mv 0) me_int (sq_set hr.units))) (ms_cons (ms_set (i := 3) sc__law_take.nd rfl (.inl rfl) (me_op os_modI (me_op os_powI (me_op os_add (me_op os_add (me_ix (is_IX hr.units) (mv 0) me_int (fun _ _ => rfl)) (me_op os_mul me_int (me_ix (is_IX hr.units) (mv 0) me_int (fun _ _ => rfl)))) me_int) me_int) me_int)) (ms_cons (ms_set (i := 3) sc__law_take.nd rfl (.inl rfl) (me_op os_modI (me_op os_powI (me_op os_add (mv 3) (me_op os_mul me_int (me_ix (is_IX hr.units) (mv 0) me_int (fun _ _ => rfl)))) me_int) me_int)) (ms_one (ms_ret (me_op os_modI (me_op os_divI (mv 3) me_int) (mv 1)))))))
theorem okr__law_take (T : TX K mg) : FnR P w K mg base (L2.CX P w) 1 (ga K "_law_take") (spM ⟨P, w, K⟩ (m__law_take cs)) := (okd__law_take T).r (fun _ _ _ _ _ _ us hl => match us, hl with | [_, _], _ => rfl)
theorem okd__law_asked (T : TX K mg) : FnD P w K mg base 19 (ga K "_law_asked") ["_law_way", "_law_first", "_law_values", "_law_paid"] (spM ⟨P, w, K⟩ (m__law_asked cs)) d__law_asked.name d__law_asked.qual d__law_asked.params d__law_asked.body d__law_asked.scope :=
  def_of (T.d 137) sc__law_asked rfl rfl fun cdv A outer s H E hr => ms_one (ms_if (mt_cmp (os_eq hr.units) (mv 0) me_int (nomark _)) (ms_one (ms_expr (me_call wayP (okr_fall T) (hr.mono (by decide)) (T.kg 102) (by rfl) (T.g 43) (takes_of rfl rfl rfl rfl) (ma_cons (mv 1) (ma_cons (mv 2) ma_nil))))) (ms_one (ms_if (mt_cmp (os_eq hr.units) (mv 0) me_int (nomark _)) (ms_one (ms_expr (me_call wayP (okr_are_fair T) (hr.mono (by decide)) (T.kg 106) (by rfl) (T.g 47) (takes_of rfl rfl rfl rfl) (ma_cons (mv 1) (ma_cons (mv 2) (ma_cons (mv 3) ma_nil)))))) (ms_one (ms_if (mt_cmp (os_eq hr.units) (mv 0) me_int (nomark _)) (ms_one (ms_expr (me_call wayP (okr_lies T) (hr.mono (by decide)) (T.kg 105) (by rfl) (T.g 46) (takes_of rfl rfl rfl rfl) (ma_cons (mv 1) (ma_cons (mv 2) (ma_cons (mv 3) ma_nil)))))) (ms_one (ms_if (mt_cmp (os_eq hr.units) (mv 0) me_int (nomark _)) (ms_one (ms_expr (me_call wayP (okr_greatest_payments T) (hr.mono (by decide)) (T.kg 108) (by rfl) (T.g 49) (takes_of rfl rfl rfl rfl) (ma_cons (mv 1) (ma_cons (mv 2) ma_nil))))) (ms_one (ms_if (mt_cmp (os_eq hr.units) (mv 0) me_int (nomark _)) (ms_one (ms_expr (me_call wayP (okr_evened T) (hr.mono (by decide)) (T.kg 115) (by rfl) (T.g 53) (takes_of rfl rfl rfl rfl) (ma_cons (mv 1) (ma_cons (mv 2) ma_nil))))) (ms_one (ms_if (mt_cmp (os_eq hr.units) (mv 0) me_int (nomark _)) (ms_one (ms_expr (me_call wayT (okr_best_income T) (hr.mono (by decide)) (T.kg 116) (by rfl) (T.g 54) (takes_of rfl rfl rfl rfl) (ma_cons (mv 1) (ma_cons (mv 2) ma_nil))))) (ms_one (ms_expr (me_call wayP (okr_income T) (hr.mono (by decide)) (T.kg 109) (by rfl) (T.g 50) (takes_of rfl rfl rfl rfl) (ma_cons (mv 1) (ma_cons (mv 3) ma_nil))))))))))))))))
theorem okr__law_asked (T : TX K mg) : FnR P w K mg base (L2.CX P w) 19 (ga K "_law_asked") (spM ⟨P, w, K⟩ (m__law_asked cs)) := (okd__law_asked T).r (fun _ _ _ _ _ _ us hl => match us, hl with | [_, _, _, _], _ => rfl)
theorem okd__law_caught (T : TX K mg) : FnD P w K mg base 20 (ga K "_law_caught") ["_law_way", "_law_first", "_law_values", "_law_paid"] (spM ⟨P, w, K⟩ (m__law_caught cs)) d__law_caught.name d__law_caught.qual d__law_caught.params d__law_caught.body d__law_caught.scope :=
  def_of (T.d 138) sc__law_caught rfl rfl fun cdv A outer s H E hr => ms_cons (ms_try2 (W1 := wF) rfl rfl (takes_of rfl rfl rfl rfl) (exfB_ok (xe T 110)) (isfB_ok (xe T 114)) (.many (.fld (.non .nil))) (n := 6) (by rfl) (fun W pn xe' tk po => ms_one (ms_expr (me_call wayT (okr__law_asked T) (hr.mono (by decide)) (T.kg 137) (by rfl) (T.g 75) tk (ma_cons (mv 0) (ma_cons (mv 1) (ma_cons (mv 2) (ma_cons (mv 3) ma_nil))))))) (.named sc__law_caught.nd (i := 4) rfl rfl (.tup (.cons ⟨by rfl, by decide, .inl (T.g 85)⟩ (.cons ⟨by rfl, by decide, .inl (T.g 82)⟩ (.cons ⟨by rfl, by decide, .inl (T.g 89)⟩ (.cons ⟨by rfl, by decide, .inl (T.g 91)⟩ .nil)))) (show 4 ≤ sizeLine by decide)) (fun a oe cls d pn hz hf => pss_cons (ps_set (i := 5) sc__law_caught.nd rfl (.inl rfl) (pe_lst (pa_cons (pe_callB (call_isX hz hf) (by rfl) (T.f 109) rfl (pa_cons (pv 4) (pa_cons (pe_glob (by rfl) (T.g 85) rfl) pa_nil))) (pa_cons (pe_callB (call_isX hz hf) (by rfl) (T.f 109) rfl (pa_cons (pv 4) (pa_cons (pe_glob (by rfl) (T.g 82) rfl) pa_nil))) (pa_cons (pe_callB (call_isX hz hf) (by rfl) (T.f 109) rfl (pa_cons (pv 4) (pa_cons (pe_glob (by rfl) (T.g 89) rfl) pa_nil))) (pa_cons pe_bl pa_nil)))))) (pss_one (ps_ret (pe_lst (pa_cons (te := tM (rW _) _ wF _) (me_ix (is_IX hr.units) (me_lst (ma_cons me_str (ma_cons me_str (ma_cons me_str (ma_cons me_str ma_nil))))) (me_bm tyL_ok PySem.F.plainAttrs_list PySem.F.slot_list_index PySem.F.type_list_index mq_index (mv 5) (ma_cons me_bl ma_nil)) (fun _ _ => rfl)) (pa_cons (pe_xfL (xflB_ok (xe T 115)) hz hf (pv 4)) pa_nil)))))) (.named sc__law_caught.nd (i := 4) rfl rfl (.one ⟨by rfl, by decide, .inl (T.g 94)⟩) (fun a oe cls d pn hz hf => pss_one (ps_ret (pe_lst (pa_cons pe_str (pa_cons (pe_xf (xfB_ok (xe T 113)) (eqO_ok (xe T 44)) hz hf (pv 4)) pa_nil))))) (.plain (.one ⟨by rfl, by decide, .inl (T.g 95)⟩) (fun a oe cls d pn hz hf => pss_one (ps_ret (pe_lst (pa_cons pe_str pa_nil)))) .nil)))) (ms_one (ms_ret (me_lst (ma_cons me_str ma_nil))))
theorem okr__law_caught (T : TX K mg) : FnR P w K mg base (L2.CX P w) 20 (ga K "_law_caught") (spM ⟨P, w, K⟩ (m__law_caught cs)) := (okd__law_caught T).r (fun _ _ _ _ _ _ us hl => match us, hl with | [_, _, _, _], _ => rfl)
theorem okd__law_pools (T : TX K mg) : FnD P w K mg base 15 (ga K "_law_pools") [] (spM ⟨P, w, K⟩ (m__law_pools cs)) d__law_pools.name d__law_pools.qual d__law_pools.params d__law_pools.body d__law_pools.scope :=
  def_of (T.d 139) sc__law_pools rfl rfl fun cdv A outer s H E hr => ms_cons (ms_set (i := 0) sc__law_pools.nd rfl (.inl rfl) (me_new wayNP (mkB_ok (xe T 63)) (okr_House___init__ T) (hr.mono (by decide)) (by rfl) (T.g 98) (takes_of rfl rfl rfl rfl) (ma_cons (me_lst (ma_cons (me_tup (ma_cons me_str (ma_cons (me_lst (ma_cons (me_tup (ma_cons me_str (ma_cons (me_new wayNR (mkB_ok (xe T 4)) (ok_Ratio2 T) (hr.mono (by decide)) (by rfl) (T.g 97) (takes_of rfl rfl rfl rfl) (ma_cons me_int (ma_cons me_int ma_nil))) ma_nil))) (ma_cons (me_tup (ma_cons me_str (ma_cons (me_new wayNR (mkB_ok (xe T 4)) (ok_Ratio2 T) (hr.mono (by decide)) (by rfl) (T.g 97) (takes_of rfl rfl rfl rfl) (ma_cons me_int (ma_cons me_int ma_nil))) ma_nil))) (ma_cons (me_tup (ma_cons me_str (ma_cons (me_new wayNR (mkB_ok (xe T 4)) (ok_Ratio2 T) (hr.mono (by decide)) (by rfl) (T.g 97) (takes_of rfl rfl rfl rfl) (ma_cons me_int (ma_cons me_int ma_nil))) ma_nil))) ma_nil)))) ma_nil))) ma_nil)) ma_nil))) (ms_cons (ms_set (i := 1) sc__law_pools.nd rfl (.inl rfl) (me_lst (ma_cons (me_tup (ma_cons (me_tup (ma_cons me_str (ma_cons me_non ma_nil))) (ma_cons (me_new wayNR (mkB_ok (xe T 4)) (ok_Ratio2 T) (hr.mono (by decide)) (by rfl) (T.g 97) (takes_of rfl rfl rfl rfl) (ma_cons me_int (ma_cons me_int ma_nil))) ma_nil))) (ma_cons (me_tup (ma_cons (me_tup (ma_cons me_str (ma_cons me_str ma_nil))) (ma_cons (me_new wayNR (mkB_ok (xe T 4)) (ok_Ratio2 T) (hr.mono (by decide)) (by rfl) (T.g 97) (takes_of rfl rfl rfl rfl) (ma_cons me_int (ma_cons me_int ma_nil))) ma_nil))) ma_nil)))) (ms_one (ms_ret (me_tup (ma_cons (mv 0) (ma_cons (me_cmeth (cn := "House") wayP (pe_glob (v := .ref (ga K "House")) (by rfl) (T.g 98) rfl) (cmetB_ok (xe T 68)) (okr_House_tied T) (hr.mono (by decide)) (takes_of rfl rfl rfl rfl) (ma_cons (me_lst (ma_cons (me_tup (ma_cons me_str (ma_cons (me_lst (ma_cons me_str (ma_cons me_str ma_nil))) ma_nil))) (ma_cons (me_tup (ma_cons me_str (ma_cons (me_lst (ma_cons me_str ma_nil)) ma_nil))) ma_nil))) (ma_cons (mv 1) ma_nil))) ma_nil))))))
theorem okr__law_pools (T : TX K mg) : FnR P w K mg base (L2.CX P w) 15 (ga K "_law_pools") (spM ⟨P, w, K⟩ (m__law_pools cs)) := (okd__law_pools T).r (fun _ _ _ _ _ _ us hl => match us, hl with | [], _ => rfl)
theorem okd__law_values_right (T : TX K mg) : FnD P w K mg base 25 (ga K "_law_values_right") ["_law_box_here", "_law_house", "_law_wish", "_law_tied"] (spM ⟨P, w, K⟩ (m__law_values_right cs)) d__law_values_right.name d__law_values_right.qual d__law_values_right.params d__law_values_right.body d__law_values_right.scope :=
  def_of (T.d 140) sc__law_values_right rfl rfl fun cdv A outer s H E hr => ms_cons (ms_set (i := 4) sc__law_values_right.nd rfl (.inl rfl) (me_ix (is_IX hr.units) (me_lst (ma_cons (me_tup (ma_cons me_str (ma_cons me_str ma_nil))) (ma_cons me_int (ma_cons me_str (ma_cons (me_tup (ma_cons me_str (ma_cons me_str ma_nil))) (ma_cons (me_tup ma_nil) (ma_cons me_non ma_nil))))))) (me_call wayO (okr__law_take T) (hr.mono (by decide)) (T.kg 119) (by rfl) (T.g 57) (takes_of rfl rfl rfl rfl) (ma_cons (mv 0) (ma_cons me_int ma_nil))) (fun _ _ => rfl))) (ms_cons (ms_set (i := 5) sc__law_values_right.nd rfl (.inl rfl) (me_ix (is_IX hr.units) (me_lst (ma_cons (me_un us_negI me_int) (ma_cons (me_new wayNR (mkB_ok (xe T 4)) (ok_Ratio2 T) (hr.mono (by decide)) (by rfl) (T.g 97) (takes_of rfl rfl rfl rfl) (ma_cons (me_un us_negI me_int) (ma_cons me_int ma_nil))) (ma_cons me_bl (ma_cons me_non (ma_cons me_str (ma_cons (me_lst (ma_cons me_int ma_nil)) ma_nil))))))) (me_call wayO (okr__law_take T) (hr.mono (by decide)) (T.kg 119) (by rfl) (T.g 57) (takes_of rfl rfl rfl rfl) (ma_cons (mv 0) (ma_cons me_int ma_nil))) (fun _ _ => rfl))) (ms_cons (ms_set (i := 6) sc__law_values_right.nd rfl (.inl rfl) (me_ix (is_IX hr.units) (me_lst (ma_cons me_non (ma_cons me_int (ma_cons me_str (ma_cons (me_lst ma_nil) (ma_cons (me_lst (ma_cons (me_tup (ma_cons me_str (ma_cons me_str ma_nil))) ma_nil)) (ma_cons (mv 2) ma_nil))))))) (me_call wayO (okr__law_take T) (hr.mono (by decide)) (T.kg 119) (by rfl) (T.g 57) (takes_of rfl rfl rfl rfl) (ma_cons (mv 0) (ma_cons me_int ma_nil))) (fun _ _ => rfl))) (ms_cons (ms_set (i := 7) sc__law_values_right.nd rfl (.inl rfl) (me_fz (me_dispX hr.units (.cons (.cons (.cons .nil))) (pps_cons (me_tup (ma_cons me_str (ma_cons me_str ma_nil))) me_int (pps_cons (me_tup (ma_cons me_str (ma_cons me_str ma_nil))) (me_new wayNR1 (mkB_ok (xe T 4)) (ok_Ratio1 T) (hr.mono (by decide)) (by rfl) (T.g 97) (takes_of rfl rfl rfl rfl) (ma_cons me_int ma_nil)) (pps_cons (me_tup (ma_cons me_str (ma_cons me_str ma_nil))) me_int pps_nil)))))) (ms_cons (ms_set (i := 8) sc__law_values_right.nd rfl (.inl rfl) (me_lst (ma_cons (me_tup (ma_cons (mv 6) (ma_cons (me_lst (ma_cons me_str (ma_cons (mv 6) ma_nil))) ma_nil))) (ma_cons (me_tup (ma_cons (me_fz (me_dispX hr.units (.cons .nil) (pps_cons (mv 4) (mv 5) pps_nil))) (ma_cons (me_lst (ma_cons me_str (ma_cons (mv 4) ma_nil))) ma_nil))) (ma_cons (me_tup (ma_cons (me_fz (me_dispX hr.units (.cons (.cons .nil)) (pps_cons (me_tup (ma_cons me_str (ma_cons me_str ma_nil))) (mv 5) (pps_cons (mv 4) me_int pps_nil)))) (ma_cons (me_lst (ma_cons me_str (ma_cons (mv 5) ma_nil))) ma_nil))) ma_nil))))) (ms_cons (ms_set (i := 8) sc__law_values_right.nd rfl (.inl rfl) (me_op os_add (mv 8) (me_lst (ma_cons (me_tup (ma_cons (mv 7) (ma_cons (me_lst (ma_cons me_str (ma_cons (mv 7) ma_nil))) ma_nil))) (ma_cons (me_tup (ma_cons (me_fz (me_disp1 hr.units (me_tup (ma_cons me_str (ma_cons me_str ma_nil))) me_int)) (ma_cons (me_lst (ma_cons me_str (ma_cons (me_fz (me_disp1 hr.units (me_tup (ma_cons me_str (ma_cons me_str ma_nil))) me_int)) ma_nil))) ma_nil))) (ma_cons (me_tup (ma_cons (me_fz me_dnew) (ma_cons (me_lst (ma_cons me_str (ma_cons (me_fz me_dnew) ma_nil))) ma_nil))) ma_nil)))))) (ms_cons (ms_for (us := [9, 10]) (passes_of rfl) rfl (mi_seq (mv 8)) (mg_tup rfl (mgs_cons (mg_name (i := 9) sc__law_values_right.nd rfl (.inl rfl)) (mgs_cons (mg_name (i := 10) sc__law_values_right.nd rfl (.inl rfl)) mgs_nil))) (ms_one (ms_for (us := [11]) (passes_of rfl) rfl (mi_range1 (by rfl) (T.f 115) (ma_cons me_int ma_nil)) (mg_name (i := 11) sc__law_values_right.nd rfl (.inl rfl)) (ms_one (ms_if (mt_cmp ((os_ne hr.units).or (os_neX (k := 17) (kf T) (methB_ok (xe T 60)) (okr_Ratio___eq__ T) eq_self (by decide) ((mon_in.or mon_in).or mon_dc) (.or (.or ((eqG_in (kf T) (by decide) (methB_ok (xe T 78)) (okr_House___eq__ T)).mono (by decide)) ((eqG_in (kf T) (by decide) (methB_ok (xe T 93)) (okr_Wish___eq__ T)).mono (by decide))) ((eqG_dc (kf T) (methB_ok (xe T 60)) (okr_Ratio___eq__ T) eq_self).mono (by decide))) (XoOk.or (XoOk.or xoOk_in xoOk_in) xoOk_dc) (hr.mono (by decide)))) (me_call wayP (okr__law_caught T) (hr.mono (by decide)) (T.kg 138) (by rfl) (T.g 76) (takes_of rfl rfl rfl rfl) (ma_cons (mv 11) (ma_cons (me_if (mt_cmp os_lt (mv 11) me_int (nomark _)) (mv 2) (mv 1)) (ma_cons (mv 9) (ma_cons me_non ma_nil))))) (mv 10) (nomark _)) (ms_one (ms_ret me_bl)) (ms_nil)))))) (ms_cons (ms_set (i := 12) sc__law_values_right.nd rfl (.inl rfl) (me_new wayNP (mkB_ok (xe T 81)) (okr_Wish___init__ T) (hr.mono (by decide)) (by rfl) (T.g 99) (takes_of rfl rfl rfl rfl) (ma_cons (mv 3) (ma_cons (me_fz me_dnew) ma_nil)))) (ms_cons (ms_set (i := 8) sc__law_values_right.nd rfl (.inl rfl) (me_lst (ma_cons (me_tup (ma_cons (me_fz (me_disp1 hr.units (me_tup (ma_cons me_str (ma_cons me_str ma_nil))) me_int)) (ma_cons (me_lst (ma_cons me_str ma_nil)) ma_nil))) (ma_cons (me_tup (ma_cons (me_fz me_dnew) (ma_cons (me_lst (ma_cons me_str (ma_cons (me_fz me_dnew) ma_nil))) ma_nil))) (ma_cons (me_tup (ma_cons (me_fz (me_disp1 hr.units (me_tup (ma_cons me_str (ma_cons me_str ma_nil))) (mv 5))) (ma_cons (me_lst (ma_cons me_str (ma_cons (mv 5) ma_nil))) ma_nil))) ma_nil))))) (ms_cons (ms_for (us := [9, 10]) (passes_of rfl) rfl (mi_seq (me_op os_add (mv 8) (me_lst (ma_cons (me_tup (ma_cons (me_fz (me_disp1 hr.units (me_tup (ma_cons me_str (ma_cons me_str ma_nil))) me_int)) (ma_cons (me_lst (ma_cons me_str (ma_cons (me_fz (me_disp1 hr.units (me_tup (ma_cons me_str (ma_cons me_str ma_nil))) me_int)) ma_nil))) ma_nil))) ma_nil)))) (mg_tup rfl (mgs_cons (mg_name (i := 9) sc__law_values_right.nd rfl (.inl rfl)) (mgs_cons (mg_name (i := 10) sc__law_values_right.nd rfl (.inl rfl)) mgs_nil))) (ms_one (ms_for (us := [11]) (passes_of rfl) rfl (mi_range1 (by rfl) (T.f 115) (ma_cons me_int ma_nil)) (mg_name (i := 11) sc__law_values_right.nd rfl (.inl rfl)) (ms_one (ms_if (mt_cmp ((os_ne hr.units).or (os_neX (k := 17) (kf T) (methB_ok (xe T 60)) (okr_Ratio___eq__ T) eq_self (by decide) ((mon_in.or mon_in).or mon_dc) (.or (.or ((eqG_in (kf T) (by decide) (methB_ok (xe T 78)) (okr_House___eq__ T)).mono (by decide)) ((eqG_in (kf T) (by decide) (methB_ok (xe T 93)) (okr_Wish___eq__ T)).mono (by decide))) ((eqG_dc (kf T) (methB_ok (xe T 60)) (okr_Ratio___eq__ T) eq_self).mono (by decide))) (XoOk.or (XoOk.or xoOk_in xoOk_in) xoOk_dc) (hr.mono (by decide)))) (me_call wayP (okr__law_caught T) (hr.mono (by decide)) (T.kg 138) (by rfl) (T.g 76) (takes_of rfl rfl rfl rfl) (ma_cons (mv 11) (ma_cons (me_if (mt_cmp os_lt (mv 11) me_int (nomark _)) (mv 12) (mv 3)) (ma_cons (mv 9) (ma_cons me_non ma_nil))))) (mv 10) (nomark _)) (ms_one (ms_ret me_bl)) (ms_nil)))))) (ms_one (ms_ret (me_cmp (os_eq hr.units) (me_call wayP (okr__law_caught T) (hr.mono (by decide)) (T.kg 138) (by rfl) (T.g 76) (takes_of rfl rfl rfl rfl) (ma_cons me_int (ma_cons (mv 3) (ma_cons me_non (ma_cons (me_fz (me_disp1 hr.units (me_tup (ma_cons me_str (ma_cons me_str ma_nil))) (me_un us_negI me_int))) ma_nil))))) (me_lst (ma_cons me_str ma_nil)) (nomark _)))))))))))))
theorem okr__law_values_right (T : TX K mg) : FnR P w K mg base (L2.CX P w) 25 (ga K "_law_values_right") (spM ⟨P, w, K⟩ (m__law_values_right cs)) := (okd__law_values_right T).r (fun _ _ _ _ _ _ us hl => match us, hl with | [_, _, _, _], _ => rfl)
theorem okd__law_paid_right (T : TX K mg) : FnD P w K mg base 25 (ga K "_law_paid_right") ["_law_box_here", "_law_house", "_law_wish"] (spM ⟨P, w, K⟩ (m__law_paid_right cs)) d__law_paid_right.name d__law_paid_right.qual d__law_paid_right.params d__law_paid_right.body d__law_paid_right.scope :=
  def_of (T.d 141) sc__law_paid_right rfl rfl fun cdv A outer s H E hr => ms_cons (ms_set (i := 3) sc__law_paid_right.nd rfl (.inl rfl) (me_ix (is_IX hr.units) (me_lst (ma_cons (me_tup (ma_cons me_str (ma_cons me_str ma_nil))) (ma_cons me_int (ma_cons me_str (ma_cons (me_tup (ma_cons me_str (ma_cons me_str ma_nil))) (ma_cons (me_tup ma_nil) (ma_cons me_non ma_nil))))))) (me_call wayO (okr__law_take T) (hr.mono (by decide)) (T.kg 119) (by rfl) (T.g 57) (takes_of rfl rfl rfl rfl) (ma_cons (mv 0) (ma_cons me_int ma_nil))) (fun _ _ => rfl))) (ms_cons (ms_par (by rfl) sc__law_paid_right.nd (i := 4) (j := 5) rfl rfl (by decide) rfl rfl (ma_cons (me_ix (is_IX hr.units) (me_lst (ma_cons me_bl (ma_cons me_non (ma_cons me_str (ma_cons (me_lst (ma_cons me_int ma_nil)) (ma_cons (me_fz me_dnew) ma_nil)))))) (me_call wayO (okr__law_take T) (hr.mono (by decide)) (T.kg 119) (by rfl) (T.g 57) (takes_of rfl rfl rfl rfl) (ma_cons (mv 0) (ma_cons me_int ma_nil))) (fun _ _ => rfl)) (ma_cons (me_ix (is_IX hr.units) (me_lst (ma_cons me_non (ma_cons me_int (ma_cons me_str (ma_cons (me_lst ma_nil) (ma_cons (mv 2) ma_nil)))))) (me_call wayO (okr__law_take T) (hr.mono (by decide)) (T.kg 119) (by rfl) (T.g 57) (takes_of rfl rfl rfl rfl) (ma_cons (mv 0) (ma_cons me_int ma_nil))) (fun _ _ => rfl)) ma_nil)) (by rfl)) (ms_cons (ms_set (i := 6) sc__law_paid_right.nd rfl (.inl rfl) (me_fz (me_dispX hr.units (.cons (.cons .nil)) (pps_cons (me_tup (ma_cons me_str (ma_cons me_str ma_nil))) me_int (pps_cons (me_tup (ma_cons me_str (ma_cons me_str ma_nil))) me_int pps_nil))))) (ms_cons (ms_set (i := 7) sc__law_paid_right.nd rfl (.inl rfl) (me_lst (ma_cons (me_tup (ma_cons (mv 5) (ma_cons (me_lst (ma_cons me_str (ma_cons (mv 5) ma_nil))) ma_nil))) (ma_cons (me_tup (ma_cons (me_fz (me_dispX hr.units (.cons .nil) (pps_cons (mv 3) (mv 4) pps_nil))) (ma_cons (me_lst (ma_cons me_str (ma_cons (mv 3) ma_nil))) ma_nil))) (ma_cons (me_tup (ma_cons (me_fz (me_dispX hr.units (.cons (.cons .nil)) (pps_cons (me_tup (ma_cons me_str (ma_cons me_str ma_nil))) (mv 4) (pps_cons (mv 3) me_int pps_nil)))) (ma_cons (me_lst (ma_cons me_str (ma_cons (mv 4) ma_nil))) ma_nil))) ma_nil))))) (ms_cons (ms_for (us := [8, 9]) (passes_of rfl) rfl (mi_seq (me_op os_add (mv 7) (me_lst (ma_cons (me_tup (ma_cons (me_fz (me_dispX hr.units (.cons (.cons .nil)) (pps_cons (me_tup (ma_cons me_str (ma_cons me_str ma_nil))) (me_un us_negI me_int) (pps_cons (mv 3) me_int pps_nil)))) (ma_cons (me_lst (ma_cons me_str (ma_cons (mv 3) ma_nil))) ma_nil))) ma_nil)))) (mg_tup rfl (mgs_cons (mg_name (i := 8) sc__law_paid_right.nd rfl (.inl rfl)) (mgs_cons (mg_name (i := 9) sc__law_paid_right.nd rfl (.inl rfl)) mgs_nil))) (ms_one (ms_for (us := [10]) (passes_of rfl) rfl (mi_seq (me_lst (ma_cons me_int (ma_cons me_int (ma_cons me_int ma_nil))))) (mg_name (i := 10) sc__law_paid_right.nd rfl (.inl rfl)) (ms_one (ms_if (mt_cmp ((os_ne hr.units).or (os_neX (k := 17) (kf T) (methB_ok (xe T 60)) (okr_Ratio___eq__ T) eq_self (by decide) ((mon_in.or mon_in).or mon_dc) (.or (.or ((eqG_in (kf T) (by decide) (methB_ok (xe T 78)) (okr_House___eq__ T)).mono (by decide)) ((eqG_in (kf T) (by decide) (methB_ok (xe T 93)) (okr_Wish___eq__ T)).mono (by decide))) ((eqG_dc (kf T) (methB_ok (xe T 60)) (okr_Ratio___eq__ T) eq_self).mono (by decide))) (XoOk.or (XoOk.or xoOk_in xoOk_in) xoOk_dc) (hr.mono (by decide)))) (me_call wayP (okr__law_caught T) (hr.mono (by decide)) (T.kg 138) (by rfl) (T.g 76) (takes_of rfl rfl rfl rfl) (ma_cons (mv 10) (ma_cons (me_if (mt_cmp (os_eq hr.units) (mv 10) me_int (nomark _)) (mv 1) (mv 2)) (ma_cons (mv 6) (ma_cons (mv 8) ma_nil))))) (mv 9) (nomark _)) (ms_one (ms_ret me_bl)) (ms_nil)))))) (ms_cons (ms_set (i := 11) sc__law_paid_right.nd rfl (.inl rfl) (me_lstO (ma_cons me_int ma_nil))) (ms_cons (ms_set (i := 12) sc__law_paid_right.nd rfl (.inl rfl) (me_call wayK (okr__law_caught T) (hr.mono (by decide)) (T.kg 138) (by rfl) (T.g 76) (takes_of rfl rfl rfl rfl) (ma_cons me_int (ma_cons (mv 1) (ma_cons (mv 11) (ma_cons me_non ma_nil)))))) (ms_cons (ms_expr (me_bm tyL_ok PySem.F.plainAttrs_list PySem.F.slot_list_append PySem.F.type_list_append mq_append (mv 11) (ma_cons me_int ma_nil))) (ms_cons (ms_fv 12 (ms_if (mt_cmp (os_ne hr.units) (mv 12) (me_lst (ma_cons me_str (ma_cons (me_lst (ma_cons me_int (ma_cons me_int ma_nil))) ma_nil))) (nomark _)) (ms_one (ms_ret me_bl)) (ms_nil))) (ms_cons (ms_set (i := 13) sc__law_paid_right.nd rfl (.inl rfl) (me_ix (is_IX hr.units) (me_lst (ma_cons me_non (ma_cons me_int (ma_cons me_str (ma_cons (me_fz me_dnew) (ma_cons (me_tup (ma_cons me_str (ma_cons me_str ma_nil))) ma_nil)))))) (me_call wayO (okr__law_take T) (hr.mono (by decide)) (T.kg 119) (by rfl) (T.g 57) (takes_of rfl rfl rfl rfl) (ma_cons (mv 0) (ma_cons me_int ma_nil))) (fun _ _ => rfl))) (ms_cons (ms_for (us := [10]) (passes_of rfl) rfl (mi_range1 (by rfl) (T.f 115) (ma_cons me_int ma_nil)) (mg_name (i := 10) sc__law_paid_right.nd rfl (.inl rfl)) (ms_one (ms_if (mt_cmp ((os_ne hr.units).or (os_neX (k := 17) (kf T) (methB_ok (xe T 60)) (okr_Ratio___eq__ T) eq_self (by decide) ((mon_in.or mon_in).or mon_dc) (.or (.or ((eqG_in (kf T) (by decide) (methB_ok (xe T 78)) (okr_House___eq__ T)).mono (by decide)) ((eqG_in (kf T) (by decide) (methB_ok (xe T 93)) (okr_Wish___eq__ T)).mono (by decide))) ((eqG_dc (kf T) (methB_ok (xe T 60)) (okr_Ratio___eq__ T) eq_self).mono (by decide))) (XoOk.or (XoOk.or xoOk_in xoOk_in) xoOk_dc) (hr.mono (by decide)))) (me_call wayP (okr__law_caught T) (hr.mono (by decide)) (T.kg 138) (by rfl) (T.g 76) (takes_of rfl rfl rfl rfl) (ma_cons (mv 10) (ma_cons (mv 13) (ma_cons me_non (ma_cons me_non ma_nil))))) (me_if (mt_cmp os_lt (mv 10) me_int (nomark _)) (me_lst (ma_cons me_str (ma_cons (mv 13) ma_nil))) (me_lst (ma_cons me_str (ma_cons (mv 13) ma_nil)))) (nomark _)) (ms_one (ms_ret me_bl)) (ms_nil)))) (ms_one (ms_ret (me_and (me_cmp ((os_eq hr.units).or (os_eqX (k := 17) (kf T) (methB_ok (xe T 60)) (okr_Ratio___eq__ T) eq_self (by decide) ((mon_in.or mon_in).or mon_dc) (.or (.or ((eqG_in (kf T) (by decide) (methB_ok (xe T 78)) (okr_House___eq__ T)).mono (by decide)) ((eqG_in (kf T) (by decide) (methB_ok (xe T 93)) (okr_Wish___eq__ T)).mono (by decide))) ((eqG_dc (kf T) (methB_ok (xe T 60)) (okr_Ratio___eq__ T) eq_self).mono (by decide))) (XoOk.or (XoOk.or xoOk_in xoOk_in) xoOk_dc) (hr.mono (by decide)))) (me_call wayP (okr__law_caught T) (hr.mono (by decide)) (T.kg 138) (by rfl) (T.g 76) (takes_of rfl rfl rfl rfl) (ma_cons me_int (ma_cons (mv 1) (ma_cons me_non (ma_cons me_non ma_nil))))) (me_lst (ma_cons me_str (ma_cons (mv 1) ma_nil))) (nomark _)) (me_one (me_cmp ((os_eq hr.units).or (os_eqX (k := 17) (kf T) (methB_ok (xe T 60)) (okr_Ratio___eq__ T) eq_self (by decide) ((mon_in.or mon_in).or mon_dc) (.or (.or ((eqG_in (kf T) (by decide) (methB_ok (xe T 78)) (okr_House___eq__ T)).mono (by decide)) ((eqG_in (kf T) (by decide) (methB_ok (xe T 93)) (okr_Wish___eq__ T)).mono (by decide))) ((eqG_dc (kf T) (methB_ok (xe T 60)) (okr_Ratio___eq__ T) eq_self).mono (by decide))) (XoOk.or (XoOk.or xoOk_in xoOk_in) xoOk_dc) (hr.mono (by decide)))) (me_call wayP (okr__law_caught T) (hr.mono (by decide)) (T.kg 138) (by rfl) (T.g 76) (takes_of rfl rfl rfl rfl) (ma_cons me_int (ma_cons (mv 2) (ma_cons me_non (ma_cons me_non ma_nil))))) (me_lst (ma_cons me_str (ma_cons (mv 2) ma_nil))) (nomark _))))))))))))))))
theorem okr__law_paid_right (T : TX K mg) : FnR P w K mg base (L2.CX P w) 25 (ga K "_law_paid_right") (spM ⟨P, w, K⟩ (m__law_paid_right cs)) := (okd__law_paid_right T).r (fun _ _ _ _ _ _ us hl => match us, hl with | [_, _, _], _ => rfl)
theorem okd_law (T : TX K mg) : FnD P w K mg base 26 (ga K "law") ["_law_script"] (spM ⟨P, w, K⟩ (m_law cs)) d_law.name d_law.qual d_law.params d_law.body d_law.scope :=
  def_of (T.d 142) sc_law rfl rfl fun cdv A outer s H E hr => ms_cons (ms_for (us := [1]) (passes_of rfl) rfl (mi_range1 (by rfl) (T.f 115) (ma_cons (me_callB (cs_max2 rfl) (by rfl) (T.f 112) (by decide +kernel) (ma_cons me_int (ma_cons (me_callB (cs_min2 rfl) (by rfl) (T.f 113) (by decide +kernel) (ma_cons me_int (ma_cons (me_callB cs_LEN (by rfl) (T.f 110) (by decide +kernel) (ma_cons (mv 0) ma_nil)) ma_nil))) ma_nil))) ma_nil)) (mg_name (i := 1) sc_law.nd rfl (.inl rfl)) (ms_cons (ms_set (i := 2) sc_law.nd rfl (.inl rfl) (me_call wayK (okr__law_box T) (hr.mono (by decide)) (T.kg 118) (by rfl) (T.g 56) (takes_of rfl rfl rfl rfl) (ma_cons (me_call wayP (okr__law_cell T) (hr.mono (by decide)) (T.kg 117) (by rfl) (T.g 55) (takes_of rfl rfl rfl rfl) (ma_cons (mv 0) (ma_cons (mv 1) ma_nil))) ma_nil))) (ms_cons (ms_asg (us := [3, 4]) (me_call0 wayP (okr__law_pools T) (hr.mono (by decide)) (T.kg 139) (by rfl) (T.g 77) (takes_of rfl rfl rfl rfl)) (mg_tup rfl (mgs_cons (mg_name (i := 3) sc_law.nd rfl (.inl rfl)) (mgs_cons (mg_name (i := 4) sc_law.nd rfl (.inl rfl)) mgs_nil)))) (ms_cons (ms_set (i := 5) sc_law.nd rfl (.inl rfl) (me_new wayNP (mkB_ok (xe T 81)) (okr_Wish___init__ T) (hr.mono (by decide)) (by rfl) (T.g 99) (takes_of rfl rfl rfl rfl) (ma_cons (mv 3) (ma_cons (me_fz (me_disp1 hr.units (me_tup (ma_cons me_str (ma_cons (me_ix (is_IX hr.units) (me_lst (ma_cons me_str (ma_cons me_str (ma_cons me_str ma_nil)))) (me_call wayO (okr__law_take T) (hr.mono (by decide)) (T.kg 119) (by rfl) (T.g 57) (takes_of rfl rfl rfl rfl) (ma_cons (mv 2) (ma_cons me_int ma_nil))) (fun _ _ => rfl)) ma_nil))) (me_new wayNR (mkB_ok (xe T 4)) (ok_Ratio2 T) (hr.mono (by decide)) (by rfl) (T.g 97) (takes_of rfl rfl rfl rfl) (ma_cons me_int (ma_cons (me_op os_add me_int (me_call wayO (okr__law_take T) (hr.mono (by decide)) (T.kg 119) (by rfl) (T.g 57) (takes_of rfl rfl rfl rfl) (ma_cons (mv 2) (ma_cons me_int ma_nil)))) ma_nil))))) ma_nil)))) (ms_one (ms_for (us := [6]) (passes_of rfl) rfl (mi_range1 (by rfl) (T.f 115) (ma_cons me_int ma_nil)) (mg_name (i := 6) sc_law.nd rfl (.inl rfl)) (ms_one (ms_if (PW.pt (mw_or (mt_not (mt_val (me_call wayO (okr__law_values_right T) (hr.mono (by decide)) (T.kg 140) (by rfl) (T.g 78) (takes_of rfl rfl rfl rfl) (ma_cons (mv 2) (ma_cons (mv 3) (ma_cons (mv 5) (ma_cons (mv 4) ma_nil))))))) (mw_or1 (mt_not (mt_val (me_call wayO (okr__law_paid_right T) (hr.mono (by decide)) (T.kg 141) (by rfl) (T.g 79) (takes_of rfl rfl rfl rfl) (ma_cons (mv 2) (ma_cons (mv 3) (ma_cons (mv 5) ma_nil))))))))) (ms_one (ms_ret me_bl)) (ms_nil))))))))) (ms_one (ms_ret me_bl))
end
end Lw
set_option Elab.async false
set_option linter.all false
set_option maxRecDepth 100000
set_option maxHeartbeats 4000000
namespace Lw
open PySem PySem.Spec PyProof.Rows L2 He Wl Mi
abbrev spLaw (P : Program) (w : World) (K : PySem.W.Frag) : Sp := spM ⟨P, w, K⟩ (m_law cs)
theorem law_sp {P : Program} {w : World} {K : PySem.W.Frag} {H : Hp} {a : Addr} {ns : List Int} (hO : Only H) (hS : SqL K H a (ns.map V.int)) : spLaw P w K [.ref a] H (fun v _ => v = .bl true) fun _ _ _ => False := by
  have hr : RepW ⟨P, w, K⟩ H (XX (fun _ => False) [] []) [] (.d (.scr ns)) (.ref a) := by
    unfold RepW Rep
    refine ⟨a, rfl, ?_⟩
    rcases hS with (h | ⟨o, h⟩) | h
    · rcases hO a with z | ⟨o, xs, z⟩
      · rw [z] at h; cases h
      · rw [z] at h; cases h
    · exact .inl ⟨fun z => z.elim id fun ⟨n, o, e, _⟩ => (nomatch e), o, h⟩
    · exact .inr h
  have e0 : RepWs ⟨P, w, K⟩ H (XX (fun _ => False) [] []) [] [] [] := by unfold RepWs; rfl
  refine ⟨fun _ => False, [], [], [.d (.scr ns)], ⟨rfl, List.nodup_nil, fun _ z => z.elim, fun _ z => z.elim, fun _ _ e => (nomatch e), fun _ _ _ e => (nomatch e)⟩, RepWs.mkC hr e0, ?_⟩
  obtain ⟨S', e⟩ : ∃ S', m_law cs [.d (.scr ns)] [] = .ok (.d (.bl true)) S' := law_eq0
  rw [e]
  intro α' H' v _ _ h
  have h' : RepW ⟨P, w, K⟩ H' (XX (fun _ => False) α' S') α' (.d (.bl true)) v := h
  unfold RepW Rep at h'
  exact h'
theorem facts {P : Program} {w : World} {K : PySem.W.Frag} {h : Heap} {mg : Str → Option Value} {f : Addr} (X : K.In h) (G : h.Ns mainGlobals mg) (hfa : mg ("law" : Str) = some (.ref f)) (c : SaysY fa fn exB K) :
    ∃ fd : FuncData, (∀ (s : Shared) (v : Value), BindsTo s fd ⟨[v], []⟩ [("_law_script", v)]) ∧ ∀ base : Heap, K.In base → base.Ns mainGlobals mg → FnOk P w K mg base (L2.CX P w) 26 f fd ["_law_script"] (spLaw P w K) := by
  have T : TX K mg := ty_mk X G c
  have e := hfa.symm.trans (T.g 80)
  cases e
  obtain ⟨fd, F⟩ := T.d 142
  have b := FunD.bindsA (ps := ["_law_script"]) F fun _ _ _ _ _ _ us hl => match us, hl with | [_], _ => rfl
  refine ⟨fd, fun s v => b s [v] rfl, fun base _ _ => ?_⟩
  obtain ⟨fd', F', G'⟩ := (okd_law (P := P) (w := w) (base := base) T).ex
  have ef : fd' = fd := by
    obtain ⟨o1, d1, a1, a2, a3, a4, a5, a6, a7, a8, e1, l1, _⟩ := F.ex
    obtain ⟨o2, d2, b1, b2, b3, b4, b5, b6, b7, b8, e2, l2, _⟩ := F'.ex
    have l1' : K.lookup (ga K "law") = some ⟨o1, d1, .func fd, a8⟩ := l1
    rw [l1'] at l2
    have z := congrArg Obj.data (Option.some.inj l2)
    exact (Data.func.inj z).symm
  rw [← ef]; exact G'
end Lw
open PySem PySem.W PySem.Calls PyProof.Rows
theorem PySem.Challenge.cw_winoften_k53_payments_refused_holds : PySem.Challenge.rw_winoften_k53_payments_refused.Holds := by
  w_on; o_law
  refine HandSHeadRun.head_any (r := OpenLaw.row PySem.Challenge.rw_winoften_k53_payments_refused) (q := view (OpenLaw.row PySem.Challenge.rw_winoften_k53_payments_refused).prog [114]) (H := Lw.hk) (ob := Lw.ob) (M := 9650) (loose := Lw.names) (d := HandSHeadRun.topDef (OpenLaw.row PySem.Challenge.rw_winoften_k53_payments_refused).prog 114) (kwd := []) Lw.ob_eq
    (by kernel_rfl) (fun s => by kernel_rfl) Lw.run (by kernel_rfl) (by kernel_rfl) (by kernel_rfl) (by rfl) (by first | assumption | decide +kernel) (by decide +kernel) ⟨rfl, rfl, rfl, rfl, rfl, by decide +kernel⟩ ?hw ?hc
  case hw => w_witness2
  case hc =>
    refine Wl.walk_ofW (l := PySem.Challenge.rw_winoften_k53_payments_refused) (n := 63) (k := 26) (x := "_law_script") (CX := fun w => L2.CX (PySem.Challenge.rw_winoften_k53_payments_refused).prog w) rfl (by decide) (by kernel_rfl) ⟨rfl, by decide, by decide⟩ ?F (fun _ _ _ _ _ z => Wl.cx_never z)
    intro w mg fa h Y G hmg0
    obtain ⟨K, KX, c⟩ := Y
    have hmg : mg ("law" : PySem.Str) = some (.ref fa) := by
      have e : (HandSHeadRun.topDef (OpenLaw.row PySem.Challenge.rw_winoften_k53_payments_refused).prog 114).name = ("law" : PySem.Str) := by kernel_rfl
      rw [← e]
      exact hmg0
    obtain ⟨fd, hb, hF⟩ := Lw.facts (P := (PySem.Challenge.rw_winoften_k53_payments_refused).prog) (w := w) KX G hmg c
    exact ⟨K, fd, Lw.spLaw _ w K, KX, hb, fun H a ns hl hO hS => Lw.law_sp hO hS, hF⟩
